import PyProof.Rows.All
import Wide.All
import OpenK.AllK
import Wide.FinOn
import HandS.ForMost
import HandS.ForExc
import HandS.Lambda
import HandS.Walk
import HandS.NoneIn
import HandS.IsInst
import HandS.Conv
import HandS.Deep
import HandS.Style
import HandS.Strs
import HandS.ExcInit
import HandS.ExcField
import HandS.TryMany
import HandS.Defaults
import KE.SortKeyHeap
import HandS.SortKw
import HandS.DictEq
import HandS.ListEq
import HandS.EndTab
import HandS.HeadWalk
import KE.KNestM
import HandS.TupAny
import HandS.Zip
import HandS.DictComp
import HandS.SetFor
import KE.KDictPairs
import KE.KDictSum
import KE.KDictCopyH
import PySem.Challenge.RW_loadanywhere_k58_coded_words
set_option Elab.async false
set_option linter.all false
set_option maxRecDepth 100000
set_option maxHeartbeats 4000000
/-! The data layer: a def's body as a plain function over data (D), its slots (Sl), its ends. -/
namespace DL
open PySem PySem.Spec PyProof.Rows L2

/-- plain data -/
inductive D where
  | non
  | bl (b : Bool)
  | int (i : Int)
  | str (s : Str)
  | tup (l : List D)
  | lst (l : List D)
  | dct (t : Bool) (l : List (D × D))
  | obj (c : Str) (fs : List (Str × D))
  | scr (l : List Int)
  | cst (l : List D)

def keyD : Key → D
  | .inl i => .int i
  | .inr x => .str x

/-! ### a value that bears data, in the still part G of the heap -/
mutual
inductive Rp (K : PySem.W.Frag) (G : Hp) : V → D → Prop
  | non : Rp K G .non .non
  | bl (b : Bool) : Rp K G (.bl b) (.bl b)
  | int (i : Int) : Rp K G (.int i) (.int i)
  | str (s : Str) : Rp K G (.str s) (.str s)
  | tup {a : Addr} {xs : List V} {ds : List D} : G a = some (.tup xs) → RpL K G xs ds → Rp K G (.ref a) (.tup ds)
  | cst {a : Addr} {xs : List V} {ds : List D} : SqT K G a xs → RpL K G xs ds → Rp K G (.ref a) (.cst ds)
  | lst {a : Addr} {xs : List V} {ds : List D} : G a = some (.lst xs) → RpL K G xs ds → Rp K G (.ref a) (.lst ds)
  | scr {a : Addr} {ns : List Int} : SqL K G a (ns.map V.int) → Rp K G (.ref a) (.scr ns)
  | dK {a : Addr} {o : Obj} {kvs : List (Key × V)} {es : List (D × D)} : G a = some (.frz o (.dK kvs)) → RpK K G kvs es → Rp K G (.ref a) (.dct false es)
  | dT {a : Addr} {o : Obj} {kvs : List (List Key × V)} {es : List (D × D)} : G a = some (.frz o (.dT kvs)) → RpT K G kvs es → Rp K G (.ref a) (.dct true es)
  | ins {a dx Ca : Addr} {c : Str} {fv : List (Str × V)} {fs : List (Str × D)} : PySem.W.nsIn K mainGlobals c = some (some (.ref Ca)) → G a = some (.ins Ca dx fv) → G dx = some (.own a) → RpF K G fv fs → Rp K G (.ref a) (.obj c fs)
inductive RpL (K : PySem.W.Frag) (G : Hp) : List V → List D → Prop
  | nil : RpL K G [] []
  | cons {v : V} {vs : List V} {d : D} {ds : List D} : Rp K G v d → RpL K G vs ds → RpL K G (v :: vs) (d :: ds)
inductive RpK (K : PySem.W.Frag) (G : Hp) : List (Key × V) → List (D × D) → Prop
  | nil : RpK K G [] []
  | cons {k : Key} {v : V} {r : List (Key × V)} {d : D} {es : List (D × D)} : Rp K G v d → RpK K G r es → RpK K G ((k, v) :: r) ((keyD k, d) :: es)
inductive RpT (K : PySem.W.Frag) (G : Hp) : List (List Key × V) → List (D × D) → Prop
  | nil : RpT K G [] []
  | cons {ks : List Key} {v : V} {r : List (List Key × V)} {d : D} {es : List (D × D)} : Rp K G v d → RpT K G r es → RpT K G ((ks, v) :: r) ((.tup (ks.map keyD), d) :: es)
/-- named fields -/
inductive RpF (K : PySem.W.Frag) (G : Hp) : List (Str × V) → List (Str × D) → Prop
  | nil : RpF K G [] []
  | cons {x : Str} {v : V} {d : D} {vs : List (Str × V)} {ds : List (Str × D)} : Rp K G v d → RpF K G vs ds → RpF K G ((x, v) :: vs) ((x, d) :: ds)
end

theorem SqT_same {K : PySem.W.Frag} {H H' : Hp} {a : Addr} {xs : List V} (e : Same H H') (h : SqT K H a xs) : SqT K H' a xs := by
  rcases h with (h | ⟨o, h⟩) | h
  · exact .inl (.inl (e _ _ h))
  · exact .inl (.inr ⟨o, e _ _ h⟩)
  · exact .inr h

mutual
theorem Rp.mono {K : PySem.W.Frag} {G G' : Hp} (e : Same G G') : ∀ (d : D) (v : V), Rp K G v d → Rp K G' v d
  | .non, _, h => by cases h; exact .non
  | .bl b, _, h => by cases h; exact .bl b
  | .int i, _, h => by cases h; exact .int i
  | .str s, _, h => by cases h; exact .str s
  | .tup l, _, h => by
    cases h with
    | tup h1 h2 => exact .tup (e _ _ h1) (RpL.mono e l _ h2)
  | .cst l, _, h => by
    cases h with
    | cst h1 h2 => exact .cst (SqT_same e h1) (RpL.mono e l _ h2)
  | .lst l, _, h => by
    cases h with
    | lst h1 h2 => exact .lst (e _ _ h1) (RpL.mono e l _ h2)
  | .scr l, _, h => by
    cases h with
    | scr h1 => exact .scr (e.seq h1)
  | .dct t l, _, h => by
    cases h with
    | dK h1 h2 => exact .dK (e _ _ h1) (RpK.mono e l _ h2)
    | dT h1 h2 => exact .dT (e _ _ h1) (RpT.mono e l _ h2)
  | .obj c fs, _, h => by
    cases h with
    | ins h0 h1 h2 h3 => exact .ins h0 (e _ _ h1) (e _ _ h2) (RpF.mono e fs _ h3)
theorem RpL.mono {K : PySem.W.Frag} {G G' : Hp} (e : Same G G') : ∀ (l : List D) (vs : List V), RpL K G vs l → RpL K G' vs l
  | [], _, h => by cases h; exact .nil
  | d :: l, _, h => by
    cases h with
    | cons h1 h2 => exact .cons (Rp.mono e d _ h1) (RpL.mono e l _ h2)
theorem RpK.mono {K : PySem.W.Frag} {G G' : Hp} (e : Same G G') : ∀ (l : List (D × D)) (vs : List (Key × V)), RpK K G vs l → RpK K G' vs l
  | [], _, h => by cases h; exact .nil
  | (k, d) :: l, _, h => by
    cases h with
    | cons h1 h2 => exact .cons (Rp.mono e d _ h1) (RpK.mono e l _ h2)
theorem RpT.mono {K : PySem.W.Frag} {G G' : Hp} (e : Same G G') : ∀ (l : List (D × D)) (vs : List (List Key × V)), RpT K G vs l → RpT K G' vs l
  | [], _, h => by cases h; exact .nil
  | (k, d) :: l, _, h => by
    cases h with
    | cons h1 h2 => exact .cons (Rp.mono e d _ h1) (RpT.mono e l _ h2)
theorem RpF.mono {K : PySem.W.Frag} {G G' : Hp} (e : Same G G') : ∀ (l : List (Str × D)) (vs : List (Str × V)), RpF K G vs l → RpF K G' vs l
  | [], _, h => by cases h; exact .nil
  | (k, d) :: l, _, h => by
    cases h with
    | cons h1 h2 => exact .cons (Rp.mono e d _ h1) (RpF.mono e l _ h2)
end
theorem RpF.up {K : PySem.W.Frag} {G G' : Hp} {vs : List (Str × V)} {l : List (Str × D)} (h : RpF K G vs l) (e : Same G G') : RpF K G' vs l := RpF.mono e l vs h
theorem Rp.up {K : PySem.W.Frag} {G G' : Hp} {v : V} {d : D} (h : Rp K G v d) (e : Same G G') : Rp K G' v d := Rp.mono e d v h
theorem RpL.up {K : PySem.W.Frag} {G G' : Hp} {vs : List V} {l : List D} (h : RpL K G vs l) (e : Same G G') : RpL K G' vs l := RpL.mono e l vs h
theorem RpL.length {K : PySem.W.Frag} {G : Hp} : ∀ {vs : List V} {l : List D}, RpL K G vs l → vs.length = l.length
  | _, _, .nil => rfl
  | _, _, .cons _ h => congrArg (· + 1) h.length
theorem RpL.get {K : PySem.W.Frag} {G : Hp} : ∀ {vs : List V} {l : List D} {i : Nat} {d : D}, RpL K G vs l → l[i]? = some d → ∃ v, vs[i]? = some v ∧ Rp K G v d
  | _, _, _, _, .nil, e => by simp at e
  | _, _, 0, _, .cons h _, e => by simp at e; subst e; exact ⟨_, rfl, h⟩
  | _, _, i + 1, d, .cons _ h, e => by
    obtain ⟨v, e1, e2⟩ := RpL.get (i := i) (d := d) h (by simpa using e)
    exact ⟨v, by simpa using e1, e2⟩
theorem RpL.append {K : PySem.W.Frag} {G : Hp} : ∀ {vs ws : List V} {l m : List D}, RpL K G vs l → RpL K G ws m → RpL K G (vs ++ ws) (l ++ m)
  | _, _, _, _, .nil, h => h
  | _, _, _, _, .cons a b, h => .cons a (b.append h)
theorem RpL.set {K : PySem.W.Frag} {G : Hp} {v : V} {d : D} (r : Rp K G v d) : ∀ {vs : List V} {l : List D} (i : Nat), RpL K G vs l → RpL K G (vs.set i v) (l.set i d)
  | _, _, _, .nil => .nil
  | _, _, 0, .cons _ t => .cons r t
  | _, _, i + 1, .cons q t => .cons q (RpL.set r i t)

/-! ### slots -/
inductive Sl where
  | un
  | dat (d : D)
  | own (k : Bool) (l : List D)
  | ownD (t : Bool) (l : List (D × D))
  | ownI (c : Str) (fs : List (Str × D))
abbrev DEnv := List Sl
def isOwn (r : DEnv) (i : Nat) : Prop := (∃ k l, r[i]? = some (Sl.own k l)) ∨ (∃ t l, r[i]? = some (Sl.ownD t l)) ∨ ∃ c fs, r[i]? = some (Sl.ownI c fs)
/-- a dict that a def holds alone: keys ints and texts, or tuples of them -/
def DictAt (K : PySem.W.Frag) (G H : Hp) (a : Addr) (t : Bool) (es : List (D × D)) : Prop :=
  (t = false ∧ ∃ kvs, H a = some (.dK kvs) ∧ RpK K G kvs es) ∨ (t = true ∧ ∃ kvs, H a = some (.dT kvs) ∧ RpT K G kvs es)
theorem DictAt.up {K : PySem.W.Frag} {G G' H H' : Hp} {a : Addr} {t : Bool} {es : List (D × D)} (h : DictAt K G H a t es) (e : Same G G') (q : H' a = H a) : DictAt K G' H' a t es := by
  rcases h with ⟨z, kvs, h1, h2⟩ | ⟨z, kvs, h1, h2⟩
  · exact .inl ⟨z, kvs, q.trans h1, RpK.mono e _ _ h2⟩
  · exact .inr ⟨z, kvs, q.trans h1, RpT.mono e _ _ h2⟩
theorem DictAt.ne {K : PySem.W.Frag} {G H : Hp} {a : Addr} {t : Bool} {es : List (D × D)} (h : DictAt K G H a t es) : H a ≠ none := by
  rcases h with ⟨_, _, q, _⟩ | ⟨_, _, q, _⟩ <;> rw [q] <;> simp

/-- what can be written to -/
def wr (o : Option HO) : Prop := match o with
  | some (.lst _) => True
  | some (.dK _) => True
  | some (.dT _) => True
  | some (.ins _ _ _) => True
  | some (.own _) => True
  | _ => False
theorem wr_ne {o : Option HO} (h : wr o) : o ≠ none := fun z => by rw [z] at h; exact h
theorem wr_lst {H : Hp} {a : Addr} {xs : List V} (h : H a = some (.lst xs)) : wr (H a) := by rw [h]; trivial
theorem wr_same {H H' : Hp} (e : Same H H') {b : Addr} (h : wr (H b)) : wr (H' b) := by
  cases q : H b with
  | none => rw [q] at h; exact h.elim
  | some o => rw [e b o q]; rw [q] at h; exact h
theorem DictAt.wr {K : PySem.W.Frag} {G H : Hp} {a : Addr} {t : Bool} {es : List (D × D)} (h : DictAt K G H a t es) : DL.wr (H a) := by
  rcases h with ⟨_, _, q, _⟩ | ⟨_, _, q, _⟩ <;> rw [q] <;> trivial

/-- an instance that an __init__ fills (H0: the heap at the entry) -/
def InsAt (K : PySem.W.Frag) (G H H0 : Hp) (a : Addr) (c : Str) (fs : List (Str × D)) : Prop :=
  ∃ Ca dx fv, PySem.W.nsIn K mainGlobals c = some (some (.ref Ca)) ∧ H a = some (.ins Ca dx fv) ∧ H dx = some (.own a) ∧ G dx = none ∧ RpF K G fv fs ∧ ∃ Cb gs, H0 a = some (.ins Cb dx gs)
section
variable {K : PySem.W.Frag} {G G' H H' H0 : Hp} {a : Addr} {c : Str} {fs : List (Str × D)}
theorem InsAt.ne (h : InsAt K G H H0 a c fs) : H a ≠ none := by
  obtain ⟨_, _, _, _, q, _⟩ := h
  rw [q]; simp
theorem InsAt.wr (h : InsAt K G H H0 a c fs) : DL.wr (H a) := by
  obtain ⟨_, _, _, _, q, _⟩ := h
  rw [q]; trivial
theorem InsAt.up (h : InsAt K G H H0 a c fs) (e : Same G G') (k : ∀ b u, H b = some u → (b = a ∨ u = .own a) → H' b = some u) (nf : ∀ b, H b = some (.own a) → G b = none → G' b = none) : InsAt K G' H' H0 a c fs := by
  obtain ⟨Ca, dx, fv, h0, h1, h2, h3, h4, h5⟩ := h
  exact ⟨Ca, dx, fv, h0, k _ _ h1 (.inl rfl), k _ _ h2 (.inr rfl), nf _ h2 h3, h4.up e, h5⟩
end
/-- where a def runs: the written part, its classes' addresses, the still part and the heap at its entry, what it may write that stood there, tables of code objects -/
structure Fc where
  K : PySem.W.Frag
  cls : Str → Addr
  G0 : Hp
  H0 : Hp
  io : List Addr
  T : List (Addr × Str)
structure Hst (C : Fc) (G H : Hp) : Prop where
  sub : Same G H
  gnt : ∀ b ps, G b ≠ some (.tbl ps)
  g0 : Same C.G0 G
  dom : ∀ b, C.H0 b ≠ none → H b ≠ none
  domN : ∀ b, wr (C.H0 b) → wr (H b)
  keep : ∀ b o, C.H0 b = some o → b ∉ C.io → (∀ p ∈ C.T, b ≠ p.1) → H b = some o
  nofz : ∀ b, wr (C.H0 b) → C.G0 b = none → G b = none
  tabs : LamX.Tabs C.T H
structure Stt (C : Fc) (r : DEnv) (ad : Nat → Addr) (σ : L2.St) (G H : Hp) : Prop where
  hst : Hst C G H
  len : σ.length = r.length
  dat : ∀ (i : Nat) (d : D), r[i]? = some (Sl.dat d) → ∃ v, σ[i]? = some (some v) ∧ Rp C.K G v d
  own : ∀ (i : Nat) (k : Bool) (l : List D), r[i]? = some (Sl.own k l) → σ[i]? = some (some (V.ref (ad i))) ∧ (if k then ad i ∈ C.io else C.H0 (ad i) = none) ∧ G (ad i) = none ∧ ∃ xs, H (ad i) = some (.lst xs) ∧ RpL C.K G xs l
  ownD : ∀ (i : Nat) (t : Bool) (l : List (D × D)), r[i]? = some (Sl.ownD t l) → σ[i]? = some (some (V.ref (ad i))) ∧ C.H0 (ad i) = none ∧ G (ad i) = none ∧ DictAt C.K G H (ad i) t l
  ownI : ∀ (i : Nat) (c : Str) (fs : List (Str × D)), r[i]? = some (Sl.ownI c fs) → σ[i]? = some (some (V.ref (ad i))) ∧ ad i ∈ C.io ∧ G (ad i) = none ∧ InsAt C.K G H C.H0 (ad i) c fs
  inj : ∀ i j, isOwn r i → isOwn r j → ad i = ad j → i = j

/-- only new things are laid; those in G' are still -/
structure Grow (G H G' H' : Hp) : Prop where
  g : Same G G'
  h : Same H H'
  sub : Same G' H'
  gnt : ∀ b ps, G' b ≠ some (.tbl ps)
  nofz : ∀ b, wr (H b) → G b = none → G' b = none
theorem some_of_ne {H : Hp} {b : Addr} (n : H b ≠ none) : ∃ o, H b = some o := by
  cases q : H b with
  | none => exact absurd q n
  | some o => exact ⟨o, rfl⟩
theorem ne_of_some {H : Hp} {b : Addr} {o : HO} (n : H b = some o) : H b ≠ none := by rw [n]; simp
theorem Same.ne {H H' : Hp} (e : Same H H') {b : Addr} (n : H b ≠ none) : H' b ≠ none := by
  obtain ⟨o, h⟩ := some_of_ne n
  exact ne_of_some (e b o h)
theorem Grow.refl {C : Fc} {G H : Hp} (h : Hst C G H) : Grow G H G H := ⟨Same.refl _, Same.refl _, h.sub, h.gnt, fun _ _ z => z⟩
theorem Grow.trans {G H G1 H1 G2 H2 : Hp} (a : Grow G H G1 H1) (b : Grow G1 H1 G2 H2) : Grow G H G2 H2 :=
  ⟨a.g.trans b.g, a.h.trans b.h, b.sub, b.gnt, fun c n z => b.nofz c (wr_same a.h n) (a.nofz c n z)⟩
theorem Hst.grow {C : Fc} {G H G' H' : Hp} (s : Hst C G H) (w : Grow G H G' H') : Hst C G' H' :=
  ⟨w.sub, w.gnt, s.g0.trans w.g, fun b n => Same.ne w.h (s.dom b n), fun b n => wr_same w.h (s.domN b n), fun b o e n t => w.h _ _ (s.keep b o e n t), fun b n z => w.nofz b (s.domN b n) (s.nofz b n z), s.tabs.ext w.h⟩
theorem Stt.grow {C : Fc} {r : DEnv} {ad : Nat → Addr} {σ : L2.St} {G H G' H' : Hp} (s : Stt C r ad σ G H) (w : Grow G H G' H') : Stt C r ad σ G' H' := by
  refine ⟨s.hst.grow w, s.len, fun i d e => ?_, fun i k l e => ?_, fun i t l e => ?_, fun i c l e => ?_, s.inj⟩
  · obtain ⟨v, h1, h2⟩ := s.dat i d e
    exact ⟨v, h1, h2.up w.g⟩
  · obtain ⟨h1, h2, h3, xs, h4, h5⟩ := s.own i k l e
    exact ⟨h1, h2, w.nofz _ (wr_lst h4) h3, xs, w.h _ _ h4, h5.up w.g⟩
  · obtain ⟨h1, h2, h3, h4⟩ := s.ownD i t l e
    have n : H (ad i) ≠ none := h4.ne
    refine ⟨h1, h2, w.nofz _ h4.wr h3, h4.up w.g ?_⟩
    obtain ⟨o, q⟩ := some_of_ne n
    rw [q, w.h _ _ q]
  · obtain ⟨h1, h2, h3, h4⟩ := s.ownI i c l e
    exact ⟨h1, h2, w.nofz _ h4.wr h3, h4.up w.g (fun b u q _ => w.h b u q) fun b q z => w.nofz b (by rw [q]; trivial) z⟩
/-- a new still thing -/
theorem Grow.lay {G H : Hp} {p : Addr} {o : HO} (sub : Same G H) (gnt : ∀ b ps, G b ≠ some (.tbl ps)) (n : H p = none) (ho : ∀ ps, o ≠ .tbl ps) : Grow G H (upd G p o) (upd H p o) := by
  have gn : G p = none := sub.free n
  refine ⟨fun b u e => ?_, fun b u e => ?_, fun b u e => ?_, fun b ps e => ?_, fun b q z => ?_⟩
  · rw [upd_ne (ne_of_none e gn)]; exact e
  · rw [upd_ne (ne_of_none e n)]; exact e
  · by_cases h : b = p
    · subst h; rw [upd_same] at e ⊢; exact e
    · rw [upd_ne h] at e ⊢; exact sub b u e
  · by_cases h : b = p
    · subst h; rw [upd_same] at e; exact ho ps (Option.some.inj e)
    · rw [upd_ne h] at e; exact gnt b ps e
  · have h : b ≠ p := fun h => by rw [h, n] at q; exact q
    rw [upd_ne h]; exact z
/-- a new thing that is not still -/
theorem Grow.layH {G H : Hp} {p : Addr} {o : HO} (sub : Same G H) (gnt : ∀ b ps, G b ≠ some (.tbl ps)) (n : H p = none) : Grow G H G (upd H p o) := by
  refine ⟨Same.refl _, fun b u e => ?_, fun b u e => ?_, gnt, fun b q z => z⟩
  · rw [upd_ne (ne_of_none e n)]; exact e
  · have e' := sub b u e
    rw [upd_ne (ne_of_none e' n)]; exact e'

/-- what an expression leaves as it was: all but what the def holds alone, and tables -/
structure Kp (C : Fc) (r r' : DEnv) (ad : Nat → Addr) (G H G' H' : Hp) : Prop where
  g : Same G G'
  o : ∀ i, isOwn r' i → isOwn r i
  dom : ∀ b, H b ≠ none → H' b ≠ none
  domN : ∀ b, wr (H b) → wr (H' b)
  keep : ∀ b u, H b = some u → (∀ i, isOwn r i → b ≠ ad i) → (∀ p ∈ C.T, b ≠ p.1) → H' b = some u
  nofz : ∀ b, wr (H b) → G b = none → (∀ i, isOwn r i → b ≠ ad i) → G' b = none
theorem Kp.refl (C : Fc) (r : DEnv) (ad : Nat → Addr) (G H : Hp) : Kp C r r ad G H G H := ⟨Same.refl _, fun _ z => z, fun _ z => z, fun _ z => z, fun _ _ z _ _ => z, fun _ _ z _ => z⟩
theorem Kp.trans {C : Fc} {r r1 r2 : DEnv} {ad : Nat → Addr} {G H G1 H1 G2 H2 : Hp} (a : Kp C r r1 ad G H G1 H1) (b : Kp C r1 r2 ad G1 H1 G2 H2) : Kp C r r2 ad G H G2 H2 :=
  ⟨a.g.trans b.g, fun i z => a.o i (b.o i z), fun c z => b.dom c (a.dom c z), fun c z => b.domN c (a.domN c z), fun c u z n t => b.keep c u (a.keep c u z n t) (fun i q => n i (a.o i q)) t,
    fun c z y n => b.nofz c (a.domN c z) (a.nofz c z y n) fun i q => n i (a.o i q)⟩
theorem Kp.grow {C : Fc} {r : DEnv} {ad : Nat → Addr} {G H G' H' : Hp} (w : Grow G H G' H') : Kp C r r ad G H G' H' :=
  ⟨w.g, fun _ z => z, fun _ z => Same.ne w.h z, fun _ z => wr_same w.h z, fun b u z _ _ => w.h b u z, fun b z y _ => w.nofz b z y⟩

/-! ### what an expression, a row of arguments, a statement comes to -/
inductive ER where
  | ok (d : D) (r : DEnv)
  | exc (c : Str) (fs : List (Str × D))
  | bad
inductive AR where
  | ok (ds : List D) (r : DEnv)
  | exc (c : Str) (fs : List (Str × D))
  | bad
inductive SR where
  | nx (r : DEnv)
  | bk (r : DEnv)
  | ct (r : DEnv)
  | rt (d : D) (r : DEnv)
  | rtO (l : List D) (r : DEnv)
  | exc (c : Str) (fs : List (Str × D))
  | bad
abbrev ME := DEnv → ER
abbrev MA := DEnv → AR
abbrev MS := DEnv → SR

def kX (C : Fc) (E : XK) (c : Str) (fs : List (Str × D)) : Prop :=
  ∀ dd fv G' H', Hst C G' H' → H' dd = some (.xd fv) → RpF C.K G' fv fs → E (.ref (C.cls c)) (some dd) H'
def kE (C : Fc) (E : XK) (x : ER) (r : DEnv) (ad : Nat → Addr) (σ : L2.St) (G H : Hp) (Q : VK) : Prop :=
  match x with
  | .ok d r' => ∀ v G' H', Stt C r' ad σ G' H' → Kp C r r' ad G H G' H' → Rp C.K G' v d → Q v H'
  | .exc c fs => kX C E c fs
  | .bad => False
def tE (C : Fc) (E : XK) (m : ME) : TE := fun σ H Q => ∃ r ad G, Stt C r ad σ G H ∧ kE C E (m r) r ad σ G H Q
def kT (C : Fc) (E : XK) (x : ER) (r : DEnv) (ad : Nat → Addr) (σ : L2.St) (G H : Hp) (Q : Bool → Hp → Prop) : Prop :=
  match x with
  | .ok d r' => ∃ b, d = .bl b ∧ ∀ G' H', Stt C r' ad σ G' H' → Kp C r r' ad G H G' H' → Q b H'
  | .exc c fs => kX C E c fs
  | .bad => False
def tT (C : Fc) (E : XK) (m : ME) : TT := fun σ H Q => ∃ r ad G, Stt C r ad σ G H ∧ kT C E (m r) r ad σ G H Q
def kA (C : Fc) (E : XK) (x : AR) (r : DEnv) (ad : Nat → Addr) (σ : L2.St) (G H : Hp) (Q : List V → Hp → Prop) : Prop :=
  match x with
  | .ok ds r' => ∀ vs G' H', Stt C r' ad σ G' H' → Kp C r r' ad G H G' H' → RpL C.K G' vs ds → Q vs H'
  | .exc c fs => kX C E c fs
  | .bad => False
def tA (C : Fc) (E : XK) (m : MA) : TA := fun σ H Q => ∃ r ad G, Stt C r ad σ G H ∧ kA C E (m r) r ad σ G H Q
def kS (C : Fc) (E : XK) (x : SR) (G : Hp) (Dn : Ends) : Prop :=
  match x with
  | .nx r' => ∀ ad' σ' G' H', Stt C r' ad' σ' G' H' → Same G G' → Dn.nx σ' H'
  | .bk r' => ∀ ad' σ' G' H', Stt C r' ad' σ' G' H' → Same G G' → Dn.bk σ' H'
  | .ct r' => ∀ ad' σ' G' H', Stt C r' ad' σ' G' H' → Same G G' → Dn.ct σ' H'
  | .rt d r' => ∀ v ad' σ' G' H', Stt C r' ad' σ' G' H' → Rp C.K G' v d → Dn.rt v H'
  | .rtO l r' => ∀ p xs ad' σ' G' H', Stt C r' ad' σ' G' H' → (∀ i, isOwn r' i → ad' i ≠ p) → C.H0 p = none → G' p = none → H' p = some (.lst xs) → RpL C.K G' xs l → Dn.rt (.ref p) H'
  | .exc c fs => kX C E c fs
  | .bad => False
def tS (C : Fc) (E : XK) (m : MS) : TS := fun Dn σ H => ∃ r ad G, Stt C r ad σ G H ∧ kS C E (m r) G Dn

/-! ### consequence -/
section
variable {X : Cx}
theorem PE.imp {e : Expr} {t t' : TE} (h : PE X e t) (i : ∀ σ H Q, t' σ H Q → t σ H Q) : PE X e t' := ⟨fun pins s σ H Q I q => h.run pins s σ H Q I (i _ _ _ q)⟩
theorem PT.imp {e : Expr} {t t' : TT} (h : PT X e t) (i : ∀ σ H Q, t' σ H Q → t σ H Q) : PT X e t' := ⟨fun pins s σ H Q I q => h.run pins s σ H Q I (i _ _ _ q)⟩
theorem PW.imp {e : Expr} {t t' : TT} (h : PW X e t) (i : ∀ σ H Q, t' σ H Q → t σ H Q) : PW X e t' := ⟨fun wh pins s σ H Q I q => h.run wh pins s σ H Q I (i _ _ _ q)⟩
theorem PA.imp {es : List Expr} {t t' : TA} (h : PA X es t) (i : ∀ σ H Q, t' σ H Q → t σ H Q) : PA X es t' := ⟨fun pos pins s σ H Q I q => h.run pos pins s σ H Q I (i _ _ _ q)⟩
theorem PS.imp {e : Stmt} {t t' : TS} (h : PS X e t) (i : ∀ Dn σ H, t' Dn σ H → t Dn σ H) : PS X e t' := ⟨fun pins s σ H Q I q => h.run pins s σ H Q I (i _ _ _ q)⟩
theorem PSs.imp {e : List Stmt} {t t' : TS} (h : PSs X e t) (i : ∀ Dn σ H, t' Dn σ H → t Dn σ H) : PSs X e t' := ⟨fun pins s σ H Q I q => h.run pins s σ H Q I (i _ _ _ q)⟩
end

/-! ### small parts -/
def mC (d : D) : ME := fun r => .ok d r
def mV (i : Nat) : ME := fun r => match r[i]? with
  | some (.dat d) => .ok d r
  | _ => .bad
def bindE (x : ER) (f : D → DEnv → ER) : ER := match x with
  | .ok d r => f d r
  | .exc c fs => .exc c fs
  | .bad => .bad
def optE (o : Option D) (r : DEnv) : ER := match o with
  | some d => .ok d r
  | none => .bad
def mOp (g : D → D → Option D) (a b : ME) : ME := fun r => bindE (a r) fun x r1 => bindE (b r1) fun y r2 => optE (g x y) r2
def mUn (g : D → Option D) (a : ME) : ME := fun r => bindE (a r) fun x r1 => optE (g x) r1
def aNil : MA := fun r => .ok [] r
def aCons (a : ME) (b : MA) : MA := fun r => match a r with
  | .ok x r1 => (match b r1 with
    | .ok l r2 => .ok (x :: l) r2
    | .exc c fs => .exc c fs
    | .bad => .bad)
  | .exc c fs => .exc c fs
  | .bad => .bad
def mAgs (g : List D → Option D) (a : MA) : ME := fun r => match a r with
  | .ok l r1 => optE (g l) r1
  | .exc c fs => .exc c fs
  | .bad => .bad
def short (l : List D) : Bool := decide (l.length ≤ 16777216)
def gTupD (l : List D) : Option D := if short l then some (.tup l) else none
def gLstD (l : List D) : Option D := if short l then some (.lst l) else none

section
variable {X : Cx} {C : Fc} {E : XK}
theorem e_c {e : Expr} {v : V} {d : D} (h : PE X e (tC v)) (hd : ∀ G, Rp C.K G v d) : PE X e (tE C E (mC d)) :=
  PE.imp h fun σ H Q ⟨r, ad, G, s, k⟩ => k v G H s (Kp.refl _ _ _ _ _) (hd G)
theorem e_int {i j pos} : PE X (.Constant (.int i) j pos) (tE C E (mC (.int i))) := e_c pe_int fun _ => .int i
theorem e_bl {i j pos} : PE X (.Constant (.bool i) j pos) (tE C E (mC (.bl i))) := e_c pe_bl fun _ => .bl i
theorem e_non {j pos} : PE X (.Constant .none j pos) (tE C E (mC .non)) := e_c pe_non fun _ => .non
theorem e_str {i j pos} : PE X (.Constant (.str i) j pos) (tE C E (mC (.str i))) := e_c pe_str fun _ => .str i
theorem e_v (i : Nat) {x : Str} {pos : Pos} (hN : X.N[i]? = some x := by rfl) (hv : Vis X.env.scope x := by first | exact Or.inl rfl | exact Or.inr (Or.inl rfl) | exact Or.inr (Or.inr rfl)) (hd : (x == ("__debug__" : Str)) = false := by decide)
    (hcd : (x == ("__classdict__" : Str)) = false := by decide) : PE X (.Name x pos) (tE C E (mV i)) :=
  PE.imp (pe_var hN hv hd hcd) fun σ H Q ⟨r, ad, G, s, k⟩ => by
    unfold mV at k
    split at k
    · rename_i d e
      obtain ⟨v, h1, h2⟩ := s.dat i d e
      exact ⟨v, h1, k v G H s (Kp.refl _ _ _ _ _) h2⟩
    · exact k.elim
theorem a_nil : PA X [] (tA C E aNil) := PA.imp pa_nil fun σ H Q ⟨r, ad, G, s, k⟩ => k [] G H s (Kp.refl _ _ _ _ _) .nil
theorem a_cons {e : Expr} {es : List Expr} {a : ME} {b : MA} (ha : PE X e (tE C E a)) (hb : PA X es (tA C E b)) (hs : starEach (e :: es) X.env = (false, eval e X.env) :: starEach es X.env := by rfl) : PA X (e :: es) (tA C E (aCons a b)) := by
  refine PA.imp (pa_cons ha hb hs) fun σ H Q ⟨r, ad, G, s, k⟩ => ⟨r, ad, G, s, ?_⟩
  unfold aCons at k
  cases ea : a r with
  | bad => rw [ea] at k; exact k.elim
  | exc c fs => rw [ea] at k; exact k
  | ok x r1 =>
    rw [ea] at k
    intro v G1 H1 s1 g1 p1
    refine ⟨r1, ad, G1, s1, ?_⟩
    cases eb : b r1 with
    | bad => simp only [eb] at k; exact k.elim
    | exc c fs => simp only [eb] at k; exact k
    | ok l r2 =>
      simp only [eb] at k
      intro vs G2 H2 s2 g2 p2
      exact k (v :: vs) G2 H2 s2 (g1.trans g2) (.cons (p1.up g2.g) p2)
/-- an operator by values, over data -/
def OpD (C : Fc) (q : R2) (g : D → D → Option D) : Prop := ∀ G H v1 v2 d1 d2 d (Q : VK), Hst C G H → Rp C.K G v1 d1 → Rp C.K G v2 d2 → g d1 d2 = some d →
  (∀ v G' H', Grow G H G' H' → Rp C.K G' v d → Q v H') → q v1 v2 H Q
def UnD (C : Fc) (q : V → Hp → VK → Prop) (g : D → Option D) : Prop := ∀ G H v1 d1 d (Q : VK), Hst C G H → Rp C.K G v1 d1 → g d1 = some d →
  (∀ v G' H', Grow G H G' H' → Rp C.K G' v d → Q v H') → q v1 H Q
def CallD (C : Fc) (q : List V → Hp → VK → Prop) (g : List D → Option D) : Prop := ∀ G H vs ds d (Q : VK), Hst C G H → RpL C.K G vs ds → g ds = some d →
  (∀ v G' H', Grow G H G' H' → Rp C.K G' v d → Q v H') → q vs H Q
theorem tE_op {q : R2} {g : D → D → Option D} {a b : ME} (hg : OpD C q g) : ∀ σ H Q, tE C E (mOp g a b) σ H Q → tOp q (tE C E a) (tE C E b) σ H Q := by
  intro σ H Q ⟨r, ad, G, s, k⟩
  refine ⟨r, ad, G, s, ?_⟩
  unfold mOp at k
  cases ea : a r with
  | bad => rw [ea] at k; exact k.elim
  | exc c fs => rw [ea] at k; exact k
  | ok x r1 =>
    rw [ea] at k
    intro v G1 H1 s1 g1 p1
    refine ⟨r1, ad, G1, s1, ?_⟩
    cases eb : b r1 with
    | bad => simp only [bindE, eb] at k; exact k.elim
    | exc c fs => simp only [bindE, eb] at k; exact k
    | ok y r2 =>
      simp only [bindE, eb] at k
      intro u G2 H2 s2 g2 p2
      cases eg : g x y with
      | none => rw [eg] at k; exact k.elim
      | some d =>
        rw [eg] at k
        exact hg G2 H2 v u x y d Q s2.hst (p1.up g2.g) p2 eg fun w G3 H3 gr p3 => k w G3 H3 (s2.grow gr) ((g1.trans g2).trans (Kp.grow gr)) p3
theorem e_op {op : Operator} {q : R2} {g : D → D → Option D} {a b : Expr} {ma mb : ME} {pos : Pos} (ho : OpR X (binaryOp op) q) (hg : OpD C q g) (ha : PE X a (tE C E ma)) (hb : PE X b (tE C E mb)) : PE X (.BinOp a op b pos) (tE C E (mOp g ma mb)) :=
  PE.imp (pe_op ho ha hb) (tE_op hg)
theorem e_cmp {op : CmpOp} {q : R2} {g : D → D → Option D} {a b : Expr} {ma mb : ME} {pos : Pos} (ho : OpR X (compareOp op) q) (hg : OpD C q g) (ha : PE X a (tE C E ma)) (hb : PE X b (tE C E mb)) (hm : behindInMarks op b = false := by first | exact nomark _ | rfl) :
    PE X (.Compare a [op] [b] pos) (tE C E (mOp g ma mb)) := PE.imp (pe_cmpR ho ha hb hm) (tE_op hg)
theorem e_ix {q : R2} {g : D → D → Option D} {a b : Expr} {ma mb : ME} {pos : Pos} (ho : IxR X q) (hg : OpD C q g) (ha : PE X a (tE C E ma)) (hb : PE X b (tE C E mb)) (hs : PlainIx b := by exact fun _ _ => rfl) :
    PE X (.Subscript a b pos) (tE C E (mOp g ma mb)) := PE.imp (pe_ix ho ha hb hs) (tE_op hg)
theorem e_un {op : UnaryOp} {q : V → Hp → VK → Prop} {g : D → Option D} {a : Expr} {ma : ME} {pos : Pos} (ho : UnR X (unaryOp op) q) (hg : UnD C q g) (ha : PE X a (tE C E ma)) : PE X (.UnaryOp op a pos) (tE C E (mUn g ma)) := by
  refine PE.imp (pe_un ho ha) fun σ H Q ⟨r, ad, G, s, k⟩ => ⟨r, ad, G, s, ?_⟩
  unfold mUn at k
  cases ea : ma r with
  | bad => rw [ea] at k; exact k.elim
  | exc c fs => rw [ea] at k; exact k
  | ok x r1 =>
    simp only [bindE, ea] at k
    intro v G1 H1 s1 g1 p1
    cases eg : g x with
    | none => rw [eg] at k; exact k.elim
    | some d =>
      rw [eg] at k
      exact hg G1 H1 v x d Q s1.hst p1 eg fun w G3 H3 gr p3 => k w G3 H3 (s1.grow gr) (g1.trans (Kp.grow gr)) p3
theorem tA_then {q : List V → Hp → VK → Prop} {g : List D → Option D} {a : MA} (hg : CallD C q g) : ∀ σ H Q, tE C E (mAgs g a) σ H Q → tA C E a σ H (fun vs H1 => q vs H1 Q) := by
  intro σ H Q ⟨r, ad, G, s, k⟩
  refine ⟨r, ad, G, s, ?_⟩
  unfold mAgs at k
  cases ea : a r with
  | bad => rw [ea] at k; exact k.elim
  | exc c fs => rw [ea] at k; exact k
  | ok l r1 =>
    simp only [ea] at k
    intro vs G1 H1 s1 g1 p1
    cases eg : g l with
    | none => rw [eg] at k; exact k.elim
    | some d =>
      rw [eg] at k
      exact hg G1 H1 vs l d Q s1.hst p1 eg fun w G3 H3 gr p3 => k w G3 H3 (s1.grow gr) (g1.trans (Kp.grow gr)) p3
theorem tup_D : CallD C (fun xs H Q => xs.length ≤ sizeLine ∧ ∀ p, H p = none → Q (.ref p) (upd H p (.tup xs))) gTupD := by
  intro G H vs ds d Q s h e k
  unfold gTupD at e
  split at e
  · rename_i hs
    cases e
    refine ⟨by rw [h.length, sizeLine_eq]; exact of_decide_eq_true hs, fun p hp => ?_⟩
    have gr : Grow G H (upd G p (.tup vs)) (upd H p (.tup vs)) := Grow.lay s.sub s.gnt hp (fun _ z => nomatch z)
    exact k _ _ _ gr (.tup upd_same (h.up gr.g))
  · cases e
theorem lst_D : CallD C (fun xs H Q => xs.length ≤ sizeLine ∧ ∀ p, H p = none → Q (.ref p) (upd H p (.lst xs))) gLstD := by
  intro G H vs ds d Q s h e k
  unfold gLstD at e
  split at e
  · rename_i hs
    cases e
    refine ⟨by rw [h.length, sizeLine_eq]; exact of_decide_eq_true hs, fun p hp => ?_⟩
    have gr : Grow G H (upd G p (.lst vs)) (upd H p (.lst vs)) := Grow.lay s.sub s.gnt hp (fun _ z => nomatch z)
    exact k _ _ _ gr (.lst upd_same (h.up gr.g))
  · cases e
theorem e_tup {es : List Expr} {a : MA} {x1} {pos : Pos} (ha : PA X es (tA C E a)) : PE X (.Tuple es x1 pos) (tE C E (mAgs gTupD a)) := PE.imp (pe_tup ha) fun σ H Q h => tA_then tup_D σ H Q h
theorem e_lst {es : List Expr} {a : MA} {pos : Pos} (ha : PA X es (tA C E a)) : PE X (.List es pos) (tE C E (mAgs gLstD a)) := PE.imp (pe_lst ha) fun σ H Q h => tA_then lst_D σ H Q h
/-- a built-in by its name -/
theorem e_b {q : List V → Hp → VK → Prop} {g : List D → Option D} {id : String} {x : Str} {p pos : Pos} {e : Expr} {es : List Expr} {a : MA} (hc : CallR X (.builtin id) q) (hg : CallD C q g) (ha : PA X (e :: es) (tA C E a)) (hm : X.mg x = none) (hv : bootBuiltins x = some (.builtin id) := by decide +kernel) (hgl : Gl X x := by rfl)
    (hn : x ≠ "__name__" := by decide) (hdb : (x == ("__debug__" : Str)) = false := by decide) (he : starEach (e :: es) X.env = (false, eval e X.env) :: starEach es X.env := by rfl) (hpl : (backTo pos (starEach es X.env)).any (·.1) = false := by rfl) :
    PE X (.Call (.Name x p) (e :: es) [] pos) (tE C E (mAgs g a)) := PE.imp (pe_callB hc hgl hm hv ha hn hdb he hpl) fun σ H Q h => tA_then hg σ H Q h
theorem e_ty {q : List V → Hp → VK → Prop} {g : List D → Option D} {id : String} {x : Str} {p pos : Pos} {e : Expr} {es : List Expr} {a : MA} (hc : CallR X (.type id) q) (hg : CallD C q g) (ha : PA X (e :: es) (tA C E a)) (hm : X.mg x = none) (hv : bootBuiltins x = some (.type id) := by decide +kernel) (hgl : Gl X x := by rfl)
    (hn : x ≠ "__name__" := by decide) (hdb : (x == ("__debug__" : Str)) = false := by decide) (he : starEach (e :: es) X.env = (false, eval e X.env) :: starEach es X.env := by rfl) (hpl : (backTo pos (starEach es X.env)).any (·.1) = false := by rfl) :
    PE X (.Call (.Name x p) (e :: es) [] pos) (tE C E (mAgs g a)) := PE.imp (pe_callTy hc hgl hm hv ha hn hdb he hpl) fun σ H Q h => tA_then hg σ H Q h
end
end DL

/-! Operators, comparisons, tests, statements over data. -/
namespace DL
open PySem PySem.Spec PyProof.Rows L2

/-! ### ints -/
def gI2 (g : Int → Int → Option D) : D → D → Option D
  | .int i, .int j => g i j
  | _, _ => none
theorem rp_int {K : PySem.W.Frag} {G : Hp} {v : V} {i : Int} (h : Rp K G v (.int i)) : v = .int i := by cases h; rfl
theorem rp_str {K : PySem.W.Frag} {G : Hp} {v : V} {i : Str} (h : Rp K G v (.str i)) : v = .str i := by cases h; rfl
theorem rp_bl {K : PySem.W.Frag} {G : Hp} {v : V} {i : Bool} (h : Rp K G v (.bl i)) : v = .bl i := by cases h; rfl
section
variable {C : Fc}
theorem gI2_some {g : Int → Int → Option D} {x y d : D} (h : gI2 g x y = some d) : ∃ i j, x = .int i ∧ y = .int j ∧ g i j = some d := by
  cases x <;> cases y <;> first | exact ⟨_, _, rfl, rfl, h⟩ | cases h
theorem opD_rI0 {f : Int → Int → V} {g : Int → Int → Option D} (hf : ∀ i j d, g i j = some d → ∀ G, Rp C.K G (f i j) d) : OpD C (rI0 f) (gI2 g) := by
  intro G H v1 v2 d1 d2 d Q s h1 h2 e k
  obtain ⟨i, j, rfl, rfl, e⟩ := gI2_some e
  exact ⟨i, j, rp_int h1, rp_int h2, k _ G H (Grow.refl s) (hf i j d e G)⟩
theorem opD_rI {c : Int → Int → Prop} {f : Int → Int → V} {g : Int → Int → Option D} (hf : ∀ i j d, g i j = some d → c i j ∧ ∀ G, Rp C.K G (f i j) d) : OpD C (rI c f) (gI2 g) := by
  intro G H v1 v2 d1 d2 d Q s h1 h2 e k
  obtain ⟨i, j, rfl, rfl, e⟩ := gI2_some e
  exact ⟨i, j, rp_int h1, rp_int h2, (hf i j d e).1, k _ G H (Grow.refl s) ((hf i j d e).2 G)⟩
def iAdd : D → D → Option D := gI2 fun i j => some (.int (i + j))
def iSub : D → D → Option D := gI2 fun i j => some (.int (i - j))
def iMul : D → D → Option D := gI2 fun i j => if (-(2 ^ 64) < i ∧ i < 2 ^ 64) ∨ (-(2 ^ 64) < j ∧ j < 2 ^ 64) then some (.int (i * j)) else none
def iDiv : D → D → Option D := gI2 fun i j => if 0 < j ∧ j < 1073741824 then some (.int (i / j)) else none
def iMod : D → D → Option D := gI2 fun i j => if 0 < j then some (.int (i % j)) else none
def iPow : D → D → Option D := gI2 fun i j => if 0 ≤ j ∧ j ≤ 1000000 ∧ i.natAbs < 2 ^ 64 then some (.int (i ^ j.toNat)) else none
def iLt : D → D → Option D := gI2 fun i j => some (.bl (decide (i < j)))
def iLe : D → D → Option D := gI2 fun i j => some (.bl (decide (i ≤ j)))
def iGt : D → D → Option D := gI2 fun i j => some (.bl (decide (j < i)))
def iGe : D → D → Option D := gI2 fun i j => some (.bl (decide (j ≤ i)))
theorem d_add : OpD C (rI0 fun i j => .int (i + j)) iAdd := opD_rI0 fun i j d e G => by cases e; exact .int _
theorem d_sub : OpD C (rI0 fun i j => .int (i - j)) iSub := opD_rI0 fun i j d e G => by cases e; exact .int _
theorem d_mul : OpD C (rI CMul fun i j => .int (i * j)) iMul := opD_rI fun i j d e => by
  split at e
  · rename_i h; cases e; exact ⟨h, fun G => .int _⟩
  · cases e
theorem d_div : OpD C (rI CDiv fun i j => .int (i / j)) iDiv := opD_rI fun i j d e => by
  split at e
  · rename_i h; cases e; exact ⟨h, fun G => .int _⟩
  · cases e
theorem d_mod : OpD C (rI (fun _ j => 0 < j) fun i j => .int (i % j)) iMod := opD_rI fun i j d e => by
  split at e
  · rename_i h; cases e; exact ⟨h, fun G => .int _⟩
  · cases e
theorem d_pow : OpD C (rI CPow fun i j => .int (i ^ j.toNat)) iPow := opD_rI fun i j d e => by
  split at e
  · rename_i h; cases e; exact ⟨h, fun G => .int _⟩
  · cases e
theorem d_lt : OpD C (rI0 fun i j => .bl (decide (i < j))) iLt := opD_rI0 fun i j d e G => by cases e; exact .bl _
theorem d_le : OpD C (rI0 fun i j => .bl (decide (i ≤ j))) iLe := opD_rI0 fun i j d e G => by cases e; exact .bl _
theorem d_gt : OpD C (rI0 fun i j => .bl (decide (j < i))) iGt := opD_rI0 fun i j d e G => by cases e; exact .bl _
theorem d_ge : OpD C (rI0 fun i j => .bl (decide (j ≤ i))) iGe := opD_rI0 fun i j d e G => by cases e; exact .bl _
def iNeg : D → Option D
  | .int i => some (.int (-i))
  | _ => none
theorem d_neg : UnD C (rU fun i => .int (-i)) iNeg := by
  intro G H v d1 d Q s h e k
  cases d1 <;> first | (cases e; done) | skip
  rename_i i
  cases e
  exact ⟨i, rp_int h, k _ G H (Grow.refl s) (.int _)⟩
/-- is None -/
def gIsN : D → D → Option D
  | .non, .non => some (.bl true)
  | _, .non => some (.bl false)
  | _, _ => none
def gNotN : D → D → Option D
  | .non, .non => some (.bl false)
  | _, .non => some (.bl true)
  | _, _ => none
theorem rp_non {K : PySem.W.Frag} {G : Hp} {v : V} (h : Rp K G v .non) : v = .non := by cases h; rfl
theorem rp_isnon {K : PySem.W.Frag} {G : Hp} {v : V} {d : D} (h : Rp K G v d) (n : v = .non) : d = .non := by subst n; cases h; rfl
theorem d_isN : OpD C (fun x y H Q => y = .non ∧ Q (.bl (decide (x = .non))) H) gIsN := by
  intro G H v1 v2 d1 d2 d Q s h1 h2 e k
  cases d2 <;> first | (cases d1 <;> cases e; done) | skip
  refine ⟨rp_non h2, k _ G H (Grow.refl s) ?_⟩
  cases d1 <;> cases e
  · rw [rp_non h1]; exact .bl _
  all_goals
    rw [decide_eq_false (fun n => by have := rp_isnon h1 n; cases this)]
    exact .bl _
theorem d_notN : OpD C (fun x y H Q => y = .non ∧ Q (.bl (!decide (x = .non))) H) gNotN := by
  intro G H v1 v2 d1 d2 d Q s h1 h2 e k
  cases d2 <;> first | (cases d1 <;> cases e; done) | skip
  refine ⟨rp_non h2, k _ G H (Grow.refl s) ?_⟩
  cases d1 <;> cases e
  · rw [rp_non h1]; exact .bl _
  all_goals
    rw [decide_eq_false (fun n => by have := rp_isnon h1 n; cases this)]
    exact .bl _
end

/-! ### an item -/
def itemD (l : List D) (i : Int) : Option D := atI l i
theorem atI_rp {K : PySem.W.Frag} {G : Hp} {xs : List V} {l : List D} {i : Int} {d : D} (h : RpL K G xs l) (e : atI l i = some d) : ∃ v, atI xs i = some v ∧ Rp K G v d := by
  unfold atI at e ⊢
  rw [h.length]
  cases q : ixN l.length i with
  | none => rw [q] at e; cases e
  | some j =>
    rw [q] at e
    exact h.get e
def gIx : D → D → Option D
  | .lst l, .int i => atI l i
  | .tup l, .int i => atI l i
  | .scr l, .int i => (atI l i).map .int
  | .cst l, .int i => atI l i
  | _, _ => none
section
variable {C : Fc}
theorem d_ix : OpD C (rIx C.K) gIx := by
  intro G H v1 v2 d1 d2 d Q s h1 h2 e k
  cases d1 <;> cases d2 <;> first | (cases e; done) | skip
  · rename_i l i
    cases h1 with
    | tup hs hl =>
      obtain ⟨v, e1, e2⟩ := atI_rp hl e
      exact .inr (.inl ⟨_, _, i, v, rfl, rp_int h2, SqT.of (s.sub _ _ hs), e1, k v G H (Grow.refl s) e2⟩)
  · rename_i l i
    cases h1 with
    | lst hs hl =>
      obtain ⟨v, e1, e2⟩ := atI_rp hl e
      exact .inl ⟨_, _, i, v, rfl, rp_int h2, SqL.of (s.sub _ _ hs), e1, k v G H (Grow.refl s) e2⟩
  · rename_i l i
    cases h1 with
    | scr hs =>
      unfold gIx at e
      simp only at e
      cases q : atI l i with
      | none => rw [q] at e; cases e
      | some n =>
        rw [q] at e
        cases e
        refine .inl ⟨_, _, i, .int n, rfl, rp_int h2, s.sub.seq hs, ?_, k _ G H (Grow.refl s) (.int n)⟩
        unfold atI at q ⊢
        rw [List.length_map]
        cases z : ixN l.length i with
        | none => rw [z] at q; cases q
        | some j =>
          rw [z] at q
          simp only [Option.bind_some] at q ⊢
          rw [List.getElem?_map, q]
          rfl
  · rename_i l i
    cases h1 with
    | cst hs hl =>
      obtain ⟨v, e1, e2⟩ := atI_rp hl e
      exact .inr (.inl ⟨_, _, i, v, rfl, rp_int h2, SqT_same s.sub hs, e1, k v G H (Grow.refl s) e2⟩)
end

/-! ### tests and truth values -/
def mAnd (a b : ME) : ME := fun r => bindE (a r) fun x r1 => match x with
  | .bl true => b r1
  | .bl false => .ok (.bl false) r1
  | _ => .bad
def mOr (a b : ME) : ME := fun r => bindE (a r) fun x r1 => match x with
  | .bl true => .ok (.bl true) r1
  | .bl false => b r1
  | _ => .bad
def gNot : D → Option D
  | .bl b => some (.bl (!b))
  | _ => none
def mNot (a : ME) : ME := mUn gNot a
def mIf (t a b : ME) : ME := fun r => bindE (t r) fun x r1 => match x with
  | .bl true => a r1
  | .bl false => b r1
  | _ => .bad
section
variable {X : Cx} {C : Fc} {E : XK} {a b c : Expr} {ma mb mc : ME} {pos : Pos} {rest : List Expr}
/-- a value that is a truth, as a test -/
theorem tT_of {m : ME} {σ : L2.St} {H : Hp} {Q : Bool → Hp → Prop} (h : tT C E m σ H Q) : tE C E m σ H fun x H1 => ∃ k, x = .bl k ∧ Q k H1 := by
  obtain ⟨r, ad, G, s, k⟩ := h
  refine ⟨r, ad, G, s, ?_⟩
  unfold kT at k
  unfold kE
  cases e : m r with
  | bad => rw [e] at k; exact k
  | exc c fs => rw [e] at k; exact k
  | ok d r1 =>
    rw [e] at k
    obtain ⟨b, rfl, k⟩ := k
    intro v G1 H1 s1 g1 p1
    exact ⟨b, rp_bl p1, k G1 H1 s1 g1⟩
theorem t_val {e : Expr} {m : ME} (h : PE X e (tE C E m)) (he : ∀ whole, isTrue e X.env whole = (do let v ← whole; standAt e.pos; holding [v] (truthy v)) := by intro _; rfl) : PT X e (tT C E m) :=
  PT.imp (pt_val h he) fun σ H Q q => tT_of q
theorem t_cmp {op : CmpOp} {q : R2} {g : D → D → Option D} (ho : OpR X (compareOp op) q) (hg : OpD C q g) (ha : PE X a (tE C E ma)) (hb : PE X b (tE C E mb)) (hm : behindInMarks op b = false := by first | exact nomark _ | rfl) :
    PT X (.Compare a [op] [b] pos) (tT C E (mOp g ma mb)) := PT.imp (pt_cmpR ho ha hb hm) fun σ H Q h => tE_op hg σ H _ (tT_of h)
theorem t_and1 (ha : PT X a (tT C E ma)) : PW X (.BoolOp .And [a] pos) (tT C E ma) := pw_and1 ha
theorem t_or1 (ha : PT X a (tT C E ma)) : PW X (.BoolOp .Or [a] pos) (tT C E ma) := pw_or1 ha
theorem t_and (ha : PT X a (tT C E ma)) (hb : PW X (.BoolOp .And (b :: rest) pos) (tT C E mb)) : PW X (.BoolOp .And (a :: b :: rest) pos) (tT C E (mAnd ma mb)) := by
  refine PW.imp (pw_and ha hb) fun σ H Q ⟨r, ad, G, s, k⟩ => ⟨r, ad, G, s, ?_⟩
  unfold mAnd at k
  unfold kT at k ⊢
  cases e : ma r with
  | bad => simp only [e, bindE] at k
  | exc c fs => simp only [e, bindE] at k; exact k
  | ok d r1 =>
    simp only [e, bindE] at k
    cases d with
    | bl v =>
      refine ⟨v, rfl, fun G1 H1 s1 g1 => ?_⟩
      cases v with
      | false =>
        obtain ⟨b, e1, k⟩ := k
        cases e1
        exact iteF (k G1 H1 s1 g1)
      | true =>
        refine iteT ⟨r1, ad, G1, s1, ?_⟩
        simp only at k
        unfold kT
        cases e2 : mb r1 with
        | bad => rw [e2] at k; exact k
        | exc c fs => rw [e2] at k; exact k
        | ok d r2 =>
          rw [e2] at k
          obtain ⟨b, e3, k⟩ := k
          exact ⟨b, e3, fun G2 H2 s2 g2 => k G2 H2 s2 (g1.trans g2)⟩
    | _ => exact k.elim
theorem t_or (ha : PT X a (tT C E ma)) (hb : PW X (.BoolOp .Or (b :: rest) pos) (tT C E mb)) : PW X (.BoolOp .Or (a :: b :: rest) pos) (tT C E (mOr ma mb)) := by
  refine PW.imp (pw_or ha hb) fun σ H Q ⟨r, ad, G, s, k⟩ => ⟨r, ad, G, s, ?_⟩
  unfold mOr at k
  unfold kT at k ⊢
  cases e : ma r with
  | bad => simp only [e, bindE] at k
  | exc c fs => simp only [e, bindE] at k; exact k
  | ok d r1 =>
    simp only [e, bindE] at k
    cases d with
    | bl v =>
      refine ⟨v, rfl, fun G1 H1 s1 g1 => ?_⟩
      cases v with
      | true =>
        obtain ⟨b, e1, k⟩ := k
        cases e1
        exact iteT (k G1 H1 s1 g1)
      | false =>
        refine iteF ⟨r1, ad, G1, s1, ?_⟩
        simp only at k
        unfold kT
        cases e2 : mb r1 with
        | bad => rw [e2] at k; exact k
        | exc c fs => rw [e2] at k; exact k
        | ok d r2 =>
          rw [e2] at k
          obtain ⟨b, e3, k⟩ := k
          exact ⟨b, e3, fun G2 H2 s2 g2 => k G2 H2 s2 (g1.trans g2)⟩
    | _ => exact k.elim
theorem t_not (ha : PT X a (tT C E ma)) : PT X (.UnaryOp .Not a pos) (tT C E (mNot ma)) := by
  refine PT.imp (pt_not ha) fun σ H Q ⟨r, ad, G, s, k⟩ => ⟨r, ad, G, s, ?_⟩
  unfold mNot mUn at k
  unfold kT at k ⊢
  cases e : ma r with
  | bad => simp only [e, bindE] at k
  | exc c fs => simp only [e, bindE] at k; exact k
  | ok d r1 =>
    simp only [e, bindE] at k
    cases d with
    | bl v =>
      obtain ⟨b, e1, k⟩ := k
      cases e1
      exact ⟨v, rfl, k⟩
    | _ => exact k.elim
/-- a if t else b -/
theorem e_if (hc : PT X c (tT C E mc)) (ha : PE X a (tE C E ma)) (hb : PE X b (tE C E mb)) : PE X (.IfExp c a b pos) (tE C E (mIf mc ma mb)) := by
  refine PE.imp (pe_ifExp hc ha hb) fun σ H Q ⟨r, ad, G, s, k⟩ => ⟨r, ad, G, s, ?_⟩
  unfold mIf at k
  unfold kT
  unfold kE at k
  cases e : mc r with
  | bad => simp only [e, bindE] at k
  | exc c fs => simp only [e, bindE] at k; exact k
  | ok d r1 =>
    simp only [e, bindE] at k
    cases d with
    | bl v =>
      refine ⟨v, rfl, fun G1 H1 s1 g1 => ?_⟩
      cases v with
      | true =>
        refine iteT ⟨r1, ad, G1, s1, ?_⟩
        simp only at k
        unfold kE
        cases e2 : ma r1 with
        | bad => rw [e2] at k; exact k
        | exc c fs => rw [e2] at k; exact k
        | ok d r2 =>
          rw [e2] at k
          exact fun v G2 H2 s2 g2 p2 => k v G2 H2 s2 (g1.trans g2) p2
      | false =>
        refine iteF ⟨r1, ad, G1, s1, ?_⟩
        simp only at k
        unfold kE
        cases e2 : mb r1 with
        | bad => rw [e2] at k; exact k
        | exc c fs => rw [e2] at k; exact k
        | ok d r2 =>
          rw [e2] at k
          exact fun v G2 H2 s2 g2 p2 => k v G2 H2 s2 (g1.trans g2) p2
    | _ => exact k.elim
/-- and, or, not as values -/
theorem e_one {op} (h : PE X a (tE C E ma)) : PE X (.BoolOp op [a] pos) (tE C E ma) := pe_one h
theorem e_and (ha : PE X a (tE C E ma)) (hb : PE X (.BoolOp .And (b :: rest) pos) (tE C E mb)) : PE X (.BoolOp .And (a :: b :: rest) pos) (tE C E (mAnd ma mb)) := by
  refine PE.imp (pe_and ha hb) fun σ H Q ⟨r, ad, G, s, k⟩ => ⟨r, ad, G, s, ?_⟩
  unfold mAnd at k
  unfold kE at k ⊢
  cases e : ma r with
  | bad => simp only [e, bindE] at k
  | exc c fs => simp only [e, bindE] at k; exact k
  | ok d r1 =>
    simp only [e, bindE] at k
    intro v G1 H1 s1 g1 p1
    cases d with
    | bl z =>
      refine ⟨z, rp_bl p1, ?_⟩
      cases z with
      | false => exact iteF (k _ G1 H1 s1 g1 (.bl false))
      | true =>
        refine iteT ⟨r1, ad, G1, s1, ?_⟩
        simp only at k
        unfold kE
        cases e2 : mb r1 with
        | bad => rw [e2] at k; exact k
        | exc c fs => rw [e2] at k; exact k
        | ok d r2 =>
          rw [e2] at k
          exact fun v G2 H2 s2 g2 p2 => k v G2 H2 s2 (g1.trans g2) p2
    | _ => exact k.elim
theorem e_or (ha : PE X a (tE C E ma)) (hb : PE X (.BoolOp .Or (b :: rest) pos) (tE C E mb)) : PE X (.BoolOp .Or (a :: b :: rest) pos) (tE C E (mOr ma mb)) := by
  refine PE.imp (pe_or ha hb) fun σ H Q ⟨r, ad, G, s, k⟩ => ⟨r, ad, G, s, ?_⟩
  unfold mOr at k
  unfold kE at k ⊢
  cases e : ma r with
  | bad => simp only [e, bindE] at k
  | exc c fs => simp only [e, bindE] at k; exact k
  | ok d r1 =>
    simp only [e, bindE] at k
    intro v G1 H1 s1 g1 p1
    cases d with
    | bl z =>
      refine ⟨z, rp_bl p1, ?_⟩
      cases z with
      | true => exact iteT (k _ G1 H1 s1 g1 (.bl true))
      | false =>
        refine iteF ⟨r1, ad, G1, s1, ?_⟩
        simp only at k
        unfold kE
        cases e2 : mb r1 with
        | bad => rw [e2] at k; exact k
        | exc c fs => rw [e2] at k; exact k
        | ok d r2 =>
          rw [e2] at k
          exact fun v G2 H2 s2 g2 p2 => k v G2 H2 s2 (g1.trans g2) p2
    | _ => exact k.elim
theorem e_not (ha : PE X a (tE C E ma)) : PE X (.UnaryOp .Not a pos) (tE C E (mNot ma)) := by
  refine PE.imp (pe_not ha) fun σ H Q ⟨r, ad, G, s, k⟩ => ⟨r, ad, G, s, ?_⟩
  unfold mNot mUn at k
  unfold kE at k ⊢
  cases e : ma r with
  | bad => simp only [e, bindE] at k
  | exc c fs => simp only [e, bindE] at k; exact k
  | ok d r1 =>
    simp only [e, bindE] at k
    intro v G1 H1 s1 g1 p1
    cases d with
    | bl z => exact ⟨z, rp_bl p1, k _ G1 H1 s1 g1 (.bl _)⟩
    | _ => exact k.elim
/-- a op b op' c -/
def mChain (g g' : D → D → Option D) (a b c : ME) : ME := fun r => bindE (a r) fun x r1 => bindE (b r1) fun y r2 => match g x y with
  | some (.bl true) => bindE (c r2) fun z r3 => optE (g' y z) r3
  | some (.bl false) => .ok (.bl false) r2
  | _ => .bad
theorem tE_chain {q q' : R2} {g g' : D → D → Option D} (hg : OpD C q g) (hg' : OpD C q' g') : ∀ σ H Q, tE C E (mChain g g' ma mb mc) σ H Q → tChain q q' (tE C E ma) (tE C E mb) (tE C E mc) σ H Q := by
  intro σ H Q ⟨r, ad, G, s, k⟩
  refine ⟨r, ad, G, s, ?_⟩
  unfold mChain at k
  unfold kE at k ⊢
  cases ea : ma r with
  | bad => simp only [ea, bindE] at k
  | exc c fs => simp only [ea, bindE] at k; exact k
  | ok x r1 =>
    simp only [ea, bindE] at k
    intro v G1 H1 s1 g1 p1
    refine ⟨r1, ad, G1, s1, ?_⟩
    unfold kE
    cases eb : mb r1 with
    | bad => simp only [eb] at k
    | exc c fs => simp only [eb] at k; exact k
    | ok y r2 =>
      simp only [eb] at k
      intro u G2 H2 s2 g2 p2
      cases eg : g x y with
      | none => simp only [eg] at k
      | some d =>
        simp only [eg] at k
        refine hg G2 H2 v u x y d _ s2.hst (p1.up g2.g) p2 eg fun w G3 H3 gr p3 => ?_
        cases d with
        | bl z =>
          refine ⟨z, rp_bl p3, ?_⟩
          have s3 := s2.grow gr
          have g3 := (g1.trans g2).trans (Kp.grow gr)
          cases z with
          | false => exact iteF (k _ G3 H3 s3 g3 (.bl false))
          | true =>
            refine iteT ⟨r2, ad, G3, s3, ?_⟩
            simp only at k
            unfold kE
            cases ec : mc r2 with
            | bad => simp only [ec] at k
            | exc c fs => simp only [ec] at k; exact k
            | ok zz r3 =>
              simp only [ec] at k
              intro t G4 H4 s4 g4 p4
              cases eg' : g' y zz with
              | none => rw [eg'] at k; exact k.elim
              | some d' =>
                rw [eg'] at k
                exact hg' G4 H4 u t y zz d' Q s4.hst ((p2.up gr.g).up g4.g) p4 eg' fun w2 G5 H5 gr5 p5 => k w2 G5 H5 (s4.grow gr5) ((g3.trans g4).trans (Kp.grow gr5)) p5
        | _ => exact k.elim
theorem e_chain {op op' : CmpOp} {q q' : R2} {g g' : D → D → Option D} (ho : OpR X (compareOp op) q) (ho' : OpR X (compareOp op') q') (hg : OpD C q g) (hg' : OpD C q' g') (ha : PE X a (tE C E ma)) (hb : PE X b (tE C E mb)) (hc : PE X c (tE C E mc))
    (hm : lastMarks [op, op'] [b, c] = false := by with_unfolding_all rfl) : PE X (.Compare a [op, op'] [b, c] pos) (tE C E (mChain g g' ma mb mc)) := PE.imp (pe_chain ho ho' ha hb hc hm) (tE_chain hg hg')
theorem t_chain {op op' : CmpOp} {q q' : R2} {g g' : D → D → Option D} (ho : OpR X (compareOp op) q) (ho' : OpR X (compareOp op') q') (hg : OpD C q g) (hg' : OpD C q' g') (ha : PE X a (tE C E ma)) (hb : PE X b (tE C E mb)) (hc : PE X c (tE C E mc))
    (hm : lastMarks [op, op'] [b, c] = false := by with_unfolding_all rfl) : PT X (.Compare a [op, op'] [b, c] pos) (tT C E (mChain g g' ma mb mc)) := PT.imp (pt_chain ho ho' ha hb hc hm) fun σ H Q h => tE_chain hg hg' σ H _ (tT_of h)
end
end DL

/-! States that change; statements; targets. -/
namespace DL
open PySem PySem.Spec PyProof.Rows L2

theorem get_set {α : Type} {l : List α} {i j : Nat} {a b : α} (h : (l.set i a)[j]? = some b) : (j = i ∧ b = a ∧ i < l.length) ∨ (j ≠ i ∧ l[j]? = some b) := by
  rw [List.getElem?_set] at h
  split at h
  · rename_i e
    split at h
    · rename_i q; cases h; exact .inl ⟨e.symm, rfl, q⟩
    · cases h
  · rename_i e; exact .inr ⟨fun z => e z.symm, h⟩
theorem set_at {α : Type} {l : List α} {i : Nat} {a : α} (h : i < l.length) : (l.set i a)[i]? = some a := by
  rw [List.getElem?_set]; simp [h]
theorem set_no {α : Type} {l : List α} {i j : Nat} {a : α} (h : j ≠ i) : (l.set i a)[j]? = l[j]? := by
  rw [List.getElem?_set]; simp [Ne.symm h]
theorem lt_of_get {α : Type} {l : List α} {i : Nat} {a : α} (h : l[i]? = some a) : i < l.length := (List.getElem?_eq_some_iff.mp h).1
theorem isOwn.get {r : DEnv} {i : Nat} (h : isOwn r i) : ∃ x, r[i]? = some x ∧ x ≠ .un ∧ ∀ d, x ≠ .dat d := by
  rcases h with ⟨k, l, h⟩ | ⟨t, l, h⟩ | ⟨c, l, h⟩ <;> exact ⟨_, h, (fun z => nomatch z), fun d z => nomatch z⟩
theorem isOwn.of {r : DEnv} {i : Nat} {x : Sl} (h : r[i]? = some x) (n : x ≠ .un) (nd : ∀ d, x ≠ .dat d) : isOwn r i := by
  cases x with
  | un => exact absurd rfl n
  | dat d => exact absurd rfl (nd d)
  | own k l => exact .inl ⟨k, l, h⟩
  | ownD t l => exact .inr (.inl ⟨t, l, h⟩)
  | ownI c l => exact .inr (.inr ⟨c, l, h⟩)
theorem own_set_dat {r : DEnv} {i j : Nat} {d : D} (h : isOwn (r.set i (.dat d)) j) : j ≠ i ∧ isOwn r j := by
  obtain ⟨x, e, n, nd⟩ := h.get
  rcases get_set e with ⟨_, e, _⟩ | ⟨m, e⟩
  · exact absurd e (nd d)
  · exact ⟨m, .of e n nd⟩
theorem own_set_un {r : DEnv} {i j : Nat} (h : isOwn (r.set i .un) j) : j ≠ i ∧ isOwn r j := by
  obtain ⟨x, e, n, nd⟩ := h.get
  rcases get_set e with ⟨_, e, _⟩ | ⟨m, e⟩
  · exact absurd e n
  · exact ⟨m, .of e n nd⟩
theorem own_set {r : DEnv} {i j : Nat} {x : Sl} (h : isOwn (r.set i x) j) : j = i ∨ isOwn r j := by
  obtain ⟨x, e, n, nd⟩ := h.get
  rcases get_set e with ⟨z, _, _⟩ | ⟨m, e⟩
  · exact .inl z
  · exact .inr (.of e n nd)
theorem tabs_upd {T : List (Addr × Str)} {H : Hp} {a : Addr} {o : HO} (t : LamX.Tabs T H) (h1 : ∀ ps, H a ≠ some (.tbl ps)) (h2 : ∀ c q, H a ≠ some (LamX.CodeO c q)) : LamX.Tabs T (upd H a o) := by
  intro p hp
  obtain ⟨ps, e1, e2, e3⟩ := t p hp
  refine ⟨ps, ?_, e2, fun pos cv h => ?_⟩
  · rw [upd_ne]
    · exact e1
    · intro z; rw [z] at e1; exact h1 ps e1
  · obtain ⟨c, z1, z2⟩ := e3 pos cv h
    refine ⟨c, z1, ?_⟩
    rw [upd_ne]
    · exact z2
    · intro z; rw [z] at z2; exact h2 a p.2 z2
section
variable {C : Fc} {r : DEnv} {ad : Nat → Addr} {σ : L2.St} {G H : Hp}
theorem Stt.own_ne (s : Stt C r ad σ G H) {i : Nat} (h : isOwn r i) : H (ad i) ≠ none := by
  rcases h with ⟨k, l, h⟩ | ⟨t, l, h⟩ | ⟨c, l, h⟩
  · obtain ⟨_, _, _, _, q, _⟩ := s.own i k l h
    exact ne_of_some q
  · exact (s.ownD i t l h).2.2.2.ne
  · exact (s.ownI i c l h).2.2.2.ne
theorem Stt.setD (s : Stt C r ad σ G H) {i : Nat} {v : V} {d : D} (p : Rp C.K G v d) : Stt C (r.set i (.dat d)) ad (σ.set i (some v)) G H := by
  refine ⟨s.hst, by simpa using s.len, fun j d' e => ?_, fun j k l e => ?_, fun j t l e => ?_, fun j c l e => ?_, fun j k a b => s.inj j k (own_set_dat a).2 (own_set_dat b).2⟩
  · rcases get_set e with ⟨rfl, e, q⟩ | ⟨n, e⟩
    · cases e
      exact ⟨v, set_at (by rw [s.len]; exact q), p⟩
    · obtain ⟨w, h1, h2⟩ := s.dat j d' e
      exact ⟨w, by rw [set_no n]; exact h1, h2⟩
  · rcases get_set e with ⟨rfl, e, q⟩ | ⟨n, e⟩
    · cases e
    · obtain ⟨h1, h2⟩ := s.own j k l e
      exact ⟨by rw [set_no n]; exact h1, h2⟩
  · rcases get_set e with ⟨rfl, e, q⟩ | ⟨n, e⟩
    · cases e
    · obtain ⟨h1, h2⟩ := s.ownD j t l e
      exact ⟨by rw [set_no n]; exact h1, h2⟩
  · rcases get_set e with ⟨rfl, e, q⟩ | ⟨n, e⟩
    · cases e
    · obtain ⟨h1, h2⟩ := s.ownI j c l e
      exact ⟨by rw [set_no n]; exact h1, h2⟩
theorem Stt.setU (s : Stt C r ad σ G H) {i : Nat} {v : Option V} : Stt C (r.set i .un) ad (σ.set i v) G H := by
  refine ⟨s.hst, by simpa using s.len, fun j d' e => ?_, fun j k l e => ?_, fun j t l e => ?_, fun j c l e => ?_, fun j k a b => s.inj j k (own_set_un a).2 (own_set_un b).2⟩
  · rcases get_set e with ⟨rfl, e, q⟩ | ⟨n, e⟩
    · cases e
    · obtain ⟨w, h1, h2⟩ := s.dat j d' e
      exact ⟨w, by rw [set_no n]; exact h1, h2⟩
  · rcases get_set e with ⟨rfl, e, q⟩ | ⟨n, e⟩
    · cases e
    · obtain ⟨h1, h2⟩ := s.own j k l e
      exact ⟨by rw [set_no n]; exact h1, h2⟩
  · rcases get_set e with ⟨rfl, e, q⟩ | ⟨n, e⟩
    · cases e
    · obtain ⟨h1, h2⟩ := s.ownD j t l e
      exact ⟨by rw [set_no n]; exact h1, h2⟩
  · rcases get_set e with ⟨rfl, e, q⟩ | ⟨n, e⟩
    · cases e
    · obtain ⟨h1, h2⟩ := s.ownI j c l e
      exact ⟨by rw [set_no n]; exact h1, h2⟩
/-- a new thing held alone in slot i -/
theorem Stt.setN (s : Stt C r ad σ G H) {i : Nat} {p : Addr} {x : Sl} (np : ∀ j, isOwn r j → ad j ≠ p) (g : G p = none) (h0 : C.H0 p = none)
    (hx : (∃ l xs, x = .own false l ∧ H p = some (.lst xs) ∧ RpL C.K G xs l) ∨ ∃ t l, x = .ownD t l ∧ DictAt C.K G H p t l) :
    Stt C (r.set i x) (fun j => if j = i then p else ad j) (σ.set i (some (.ref p))) G H := by
  refine ⟨s.hst, by simpa using s.len, fun j d' e => ?_, fun j k l e => ?_, fun j t l e => ?_, fun j c l e => ?_, fun j k a b e => ?_⟩
  · rcases get_set e with ⟨rfl, e, q⟩ | ⟨n, e⟩
    · rcases hx with ⟨_, _, z, _⟩ | ⟨_, _, z, _⟩ <;> rw [z] at e <;> cases e
    · obtain ⟨w, h1, h2⟩ := s.dat j d' e
      exact ⟨w, by rw [set_no n]; exact h1, h2⟩
  · rcases get_set e with ⟨rfl, e, q⟩ | ⟨n, e⟩
    · rcases hx with ⟨l', xs, z, h1, h2⟩ | ⟨_, _, z, _⟩
      · rw [z] at e; cases e
        rw [if_pos rfl]
        exact ⟨set_at (by rw [s.len]; exact q), h0, g, xs, h1, h2⟩
      · rw [z] at e; cases e
    · obtain ⟨h1, h2⟩ := s.own j k l e
      rw [if_neg n]
      exact ⟨by rw [set_no n]; exact h1, h2⟩
  · rcases get_set e with ⟨rfl, e, q⟩ | ⟨n, e⟩
    · rcases hx with ⟨_, _, z, _⟩ | ⟨t', l', z, h1⟩
      · rw [z] at e; cases e
      · rw [z] at e; cases e
        rw [if_pos rfl]
        exact ⟨set_at (by rw [s.len]; exact q), h0, g, h1⟩
    · obtain ⟨h1, h2⟩ := s.ownD j t l e
      rw [if_neg n]
      exact ⟨by rw [set_no n]; exact h1, h2⟩
  · rcases get_set e with ⟨rfl, e, q⟩ | ⟨n, e⟩
    · rcases hx with ⟨_, _, z, _⟩ | ⟨_, _, z, _⟩ <;> rw [z] at e <;> cases e
    · obtain ⟨h1, h2⟩ := s.ownI j c l e
      rw [if_neg n]
      exact ⟨by rw [set_no n]; exact h1, h2⟩
  · have a' := own_set a
    have b' := own_set b
    by_cases hj : j = i
    · by_cases hk : k = i
      · rw [hj, hk]
      · rw [if_pos hj, if_neg hk] at e
        exact absurd e.symm (np k (b'.resolve_left hk))
    · by_cases hk : k = i
      · rw [if_neg hj, if_pos hk] at e
        exact absurd e (np j (a'.resolve_left hj))
      · rw [if_neg hj, if_neg hk] at e
        exact s.inj j k (a'.resolve_left hj) (b'.resolve_left hk) e
/-- the heap with what slot i holds alone put otherwise -/
theorem Hst.put (s : Hst C G H) {a : Addr} {o : HO} (g : G a = none) (h0 : C.H0 a = none ∨ (a ∈ C.io ∧ wr (some o))) (hn : H a ≠ none) (h1 : ∀ ps, H a ≠ some (.tbl ps)) (h2 : ∀ c q, H a ≠ some (LamX.CodeO c q)) : Hst C G (upd H a o) := by
  refine ⟨fun b u e => ?_, s.gnt, s.g0, fun b n => ?_, fun b n => ?_, fun b u e n t => ?_, s.nofz, tabs_upd s.tabs h1 h2⟩
  · rw [upd_ne (ne_of_none e g)]; exact s.sub b u e
  · by_cases hb : b = a
    · rw [hb, upd_same]; simp
    · rw [upd_ne hb]; exact s.dom b n
  · by_cases hb : b = a
    · rw [hb, upd_same]
      rcases h0 with h | h
      · rw [hb, h] at n; exact n.elim
      · exact h.2
    · rw [upd_ne hb]; exact s.domN b n
  · rw [upd_ne]
    · exact s.keep b u e n t
    · intro z
      rcases h0 with h | h
      · rw [z, h] at e; cases e
      · exact n (by rw [z]; exact h.1)
theorem Stt.putO (s : Stt C r ad σ G H) {i : Nat} {k : Bool} {l l' : List D} {ys : List V} (e : r[i]? = some (.own k l)) (p : RpL C.K G ys l') : Stt C (r.set i (.own k l')) ad σ G (upd H (ad i) (.lst ys)) := by
  obtain ⟨h1, h2, h3, xs, h4, h5⟩ := s.own i k l e
  have oi : isOwn r i := .inl ⟨k, l, e⟩
  have sub : ∀ j, isOwn (r.set i (.own k l')) j → isOwn r j := fun j h => by
    rcases own_set h with z | z
    · rw [z]; exact oi
    · exact z
  have h0 : C.H0 (ad i) = none ∨ (ad i ∈ C.io ∧ wr (some (.lst ys))) := by
    cases k with
    | true => exact .inr ⟨h2, trivial⟩
    | false => exact .inl h2
  refine ⟨s.hst.put h3 h0 (ne_of_some h4) (fun ps z => by rw [h4] at z; cases z) (fun c q z => by rw [h4] at z; cases z), by simpa using s.len, fun j d' q => ?_, fun j k' m q => ?_, fun j t m q => ?_, fun j c m q => ?_, fun j k' a b => s.inj j k' (sub j a) (sub k' b)⟩
  · rcases get_set q with ⟨_, q, _⟩ | ⟨n, q⟩
    · cases q
    · exact s.dat j d' q
  · rcases get_set q with ⟨rfl, q, _⟩ | ⟨n, q⟩
    · cases q
      exact ⟨h1, h2, h3, ys, upd_same, p⟩
    · obtain ⟨z1, z2, z3, zs, z4, z5⟩ := s.own j k' m q
      have ne : ad j ≠ ad i := fun z => n (s.inj j i (.inl ⟨k', m, q⟩) oi z)
      exact ⟨z1, z2, z3, zs, by rw [upd_ne ne]; exact z4, z5⟩
  · rcases get_set q with ⟨_, q, _⟩ | ⟨n, q⟩
    · cases q
    · obtain ⟨z1, z2, z3, z4⟩ := s.ownD j t m q
      have ne : ad j ≠ ad i := fun z => n (s.inj j i (.inr (.inl ⟨t, m, q⟩)) oi z)
      exact ⟨z1, z2, z3, z4.up (Same.refl _) (upd_ne ne)⟩
  · rcases get_set q with ⟨_, q, _⟩ | ⟨n, q⟩
    · cases q
    · obtain ⟨z1, z2, z3, z4⟩ := s.ownI j c m q
      have ne : ad j ≠ ad i := fun z => n (s.inj j i (.inr (.inr ⟨c, m, q⟩)) oi z)
      refine ⟨z1, z2, z3, z4.up (Same.refl _) (fun b u z y => ?_) fun _ _ z => z⟩
      rw [upd_ne]
      · exact z
      · rcases y with y | y
        · rw [y]; exact ne
        · intro y'; rw [y', h4, y] at z; cases z
theorem Stt.putDi (s : Stt C r ad σ G H) {i : Nat} {t : Bool} {l l' : List (D × D)} {o : HO} (e : r[i]? = some (.ownD t l)) (p : DictAt C.K G (upd H (ad i) o) (ad i) t l') : Stt C (r.set i (.ownD t l')) ad σ G (upd H (ad i) o) := by
  obtain ⟨h1, h2, h3, h4⟩ := s.ownD i t l e
  have oi : isOwn r i := .inr (.inl ⟨t, l, e⟩)
  have sub : ∀ j, isOwn (r.set i (.ownD t l')) j → isOwn r j := fun j h => by
    rcases own_set h with z | z
    · rw [z]; exact oi
    · exact z
  have nt : (∀ ps, H (ad i) ≠ some (.tbl ps)) ∧ ∀ c q, H (ad i) ≠ some (LamX.CodeO c q) := by
    rcases h4 with ⟨_, _, z, _⟩ | ⟨_, _, z, _⟩ <;> exact ⟨fun ps y => (by rw [z] at y; cases y), fun c q y => by rw [z] at y; cases y⟩
  refine ⟨s.hst.put h3 (.inl h2) h4.ne nt.1 nt.2, by simpa using s.len, fun j d' q => ?_, fun j k' m q => ?_, fun j t' m q => ?_, fun j c m q => ?_, fun j k' a b => s.inj j k' (sub j a) (sub k' b)⟩
  · rcases get_set q with ⟨_, q, _⟩ | ⟨n, q⟩
    · cases q
    · exact s.dat j d' q
  · rcases get_set q with ⟨_, q, _⟩ | ⟨n, q⟩
    · cases q
    · obtain ⟨z1, z2, z3, zs, z4, z5⟩ := s.own j k' m q
      have ne : ad j ≠ ad i := fun z => n (s.inj j i (.inl ⟨k', m, q⟩) oi z)
      exact ⟨z1, z2, z3, zs, by rw [upd_ne ne]; exact z4, z5⟩
  · rcases get_set q with ⟨rfl, q, _⟩ | ⟨n, q⟩
    · cases q
      exact ⟨h1, h2, h3, p⟩
    · obtain ⟨z1, z2, z3, z4⟩ := s.ownD j t' m q
      have ne : ad j ≠ ad i := fun z => n (s.inj j i (.inr (.inl ⟨t', m, q⟩)) oi z)
      exact ⟨z1, z2, z3, z4.up (Same.refl _) (upd_ne ne)⟩
  · rcases get_set q with ⟨_, q, _⟩ | ⟨n, q⟩
    · cases q
    · obtain ⟨z1, z2, z3, z4⟩ := s.ownI j c m q
      have ne : ad j ≠ ad i := fun z => n (s.inj j i (.inr (.inr ⟨c, m, q⟩)) oi z)
      refine ⟨z1, z2, z3, z4.up (Same.refl _) (fun b u z y => ?_) fun _ _ z => z⟩
      rw [upd_ne]
      · exact z
      · rcases y with y | y
        · rw [y]; exact ne
        · intro y'
          rw [y', y] at z
          rcases h4 with ⟨_, _, w, _⟩ | ⟨_, _, w, _⟩ <;> rw [w] at z <;> cases z
/-- something new that lies still from now on -/
theorem Hst.still (s : Hst C G H) {p : Addr} {o : HO} (g : G p = none) (h0 : C.H0 p = none) (hp : H p = some o) (ho : ∀ ps, o ≠ .tbl ps) : Hst C (upd G p o) H := by
  refine ⟨fun b u e => ?_, fun b ps e => ?_, fun b u e => ?_, s.dom, s.domN, s.keep, fun b n z => ?_, s.tabs⟩
  · by_cases hb : b = p
    · rw [hb, upd_same] at e; cases e; rw [hb]; exact hp
    · rw [upd_ne hb] at e; exact s.sub b u e
  · by_cases hb : b = p
    · rw [hb, upd_same] at e; exact ho ps (Option.some.inj e)
    · rw [upd_ne hb] at e; exact s.gnt b ps e
  · have e' := s.g0 b u e
    rw [upd_ne (ne_of_none e' g)]; exact e'
  · have hb : b ≠ p := fun hb => by rw [hb, h0] at n; exact n
    rw [upd_ne hb]; exact s.nofz b n z
theorem same_upd {G : Hp} {p : Addr} {o : HO} (g : G p = none) : Same G (upd G p o) := fun b u e => by rw [upd_ne (ne_of_none e g)]; exact e
theorem Stt.still (s : Stt C r ad σ G H) {p : Addr} {o : HO} (g : G p = none) (h0 : C.H0 p = none) (hp : H p = some o) (ho : ∀ ps, o ≠ .tbl ps) (np : ∀ j, isOwn r j → ad j ≠ p) (hw : ∀ a, o ≠ .own a := by intro _ z; cases z) : Stt C r ad σ (upd G p o) H := by
  have sg : Same G (upd G p o) := same_upd g
  refine ⟨s.hst.still g h0 hp ho, s.len, fun j d e => ?_, fun j k l e => ?_, fun j t l e => ?_, fun j c l e => ?_, s.inj⟩
  · obtain ⟨v, h1, h2⟩ := s.dat j d e
    exact ⟨v, h1, h2.up sg⟩
  · obtain ⟨h1, h2, h3, xs, h4, h5⟩ := s.own j k l e
    exact ⟨h1, h2, by rw [upd_ne (np j (.inl ⟨k, l, e⟩))]; exact h3, xs, h4, h5.up sg⟩
  · obtain ⟨h1, h2, h3, h4⟩ := s.ownD j t l e
    exact ⟨h1, h2, by rw [upd_ne (np j (.inr (.inl ⟨t, l, e⟩)))]; exact h3, h4.up sg rfl⟩
  · obtain ⟨h1, h2, h3, h4⟩ := s.ownI j c l e
    refine ⟨h1, h2, by rw [upd_ne (np j (.inr (.inr ⟨c, l, e⟩)))]; exact h3, h4.up sg (fun b u q _ => q) fun b q z => ?_⟩
    rw [upd_ne]
    · exact z
    · intro y; rw [y, hp] at q; exact hw _ (Option.some.inj q)
/-- slot i's own list lies still from now on -/
theorem Stt.frz (s : Stt C r ad σ G H) {i : Nat} {l : List D} (e : r[i]? = some (.own false l)) : ∃ G', Same G G' ∧ Stt C (r.set i (.dat (.lst l))) ad σ G' H := by
  obtain ⟨h1, h2, h3, xs, h4, h5⟩ := s.own i false l e
  have sg : Same G (upd G (ad i) (.lst xs)) := same_upd h3
  have u : Stt C (r.set i .un) ad σ G H := by
    have z := s.setU (i := i) (v := some (V.ref (ad i)))
    have q : σ.set i (some (V.ref (ad i))) = σ := by
      apply List.ext_getElem?
      intro j
      by_cases hj : j = i
      · rw [hj, set_at (lt_of_get h1), h1]
      · rw [set_no hj]
    rw [q] at z
    exact z
  have np : ∀ j, isOwn (r.set i .un) j → ad j ≠ ad i := fun j h z => (own_set_un h).1 (s.inj j i (own_set_un h).2 (.inl ⟨false, l, e⟩) z)
  have u2 := u.still h3 h2 h4 (fun _ z => nomatch z) np
  have u3 := u2.setD (i := i) (v := .ref (ad i)) (d := .lst l) (.lst upd_same (h5.up sg))
  refine ⟨_, sg, ?_⟩
  have q : σ.set i (some (V.ref (ad i))) = σ := by
    apply List.ext_getElem?
    intro j
    by_cases hj : j = i
    · rw [hj, set_at (lt_of_get h1), h1]
    · rw [set_no hj]
  rw [q, List.set_set] at u3
  exact u3
end

/-! ### statements -/
def sNil : MS := fun r => .nx r
def sSeq (a b : MS) : MS := fun r => match a r with
  | .nx r1 => b r1
  | x => x
def sIf (c : ME) (a b : MS) : MS := fun r => match c r with
  | .ok (.bl true) r1 => a r1
  | .ok (.bl false) r1 => b r1
  | .exc x fs => .exc x fs
  | _ => .bad
def sRet (a : ME) : MS := fun r => match a r with
  | .ok d r1 => .rt d r1
  | .exc x fs => .exc x fs
  | .bad => .bad
def sAsg (i : Nat) (a : ME) : MS := fun r => match a r with
  | .ok d r1 => .nx (r1.set i (.dat d))
  | .exc x fs => .exc x fs
  | .bad => .bad
def sExp (a : ME) : MS := fun r => match a r with
  | .ok _ r1 => .nx r1
  | .exc x fs => .exc x fs
  | .bad => .bad
def sFrz (i : Nat) (a : MS) : MS := fun r => match r[i]? with
  | some (.own false l) => a (r.set i (.dat (.lst l)))
  | _ => .bad
theorem kS_up {C : Fc} {E : XK} {x : SR} {G G' : Hp} {Dn : Ends} (h : kS C E x G Dn) (g : Same G G') : kS C E x G' Dn := by
  unfold kS at h ⊢
  cases x <;> first
    | exact fun ad' σ' G2 H' s g2 => h ad' σ' G2 H' s (g.trans g2)
    | exact h
section
variable {X : Cx} {C : Fc} {E : XK} {pos : Pos}
theorem s_nil : PSs X [] (tS C E sNil) := PSs.imp pss_nil fun Dn σ H ⟨r, ad, G, s, k⟩ => k ad σ G H s (Same.refl _)
theorem s_pass : PS X (.Pass pos) (tS C E sNil) := PS.imp ps_pass fun Dn σ H ⟨r, ad, G, s, k⟩ => k ad σ G H s (Same.refl _)
theorem s_brk : PS X (.Break pos) (tS C E fun r => .bk r) := PS.imp ps_break fun Dn σ H ⟨r, ad, G, s, k⟩ => k ad σ G H s (Same.refl _)
theorem s_cnt : PS X (.Continue pos) (tS C E fun r => .ct r) := PS.imp ps_continue fun Dn σ H ⟨r, ad, G, s, k⟩ => k ad σ G H s (Same.refl _)
theorem s_cons {st : Stmt} {rest : List Stmt} {a b : MS} (ha : PS X st (tS C E a)) (hb : PSs X rest (tS C E b)) : PSs X (st :: rest) (tS C E (sSeq a b)) := by
  refine PSs.imp (pss_cons ha hb) fun Dn σ H ⟨r, ad, G, s, k⟩ => ⟨r, ad, G, s, ?_⟩
  unfold sSeq at k
  cases e : a r with
  | nx r1 =>
    rw [e] at k
    exact fun ad1 σ1 G1 H1 s1 g1 => ⟨r1, ad1, G1, s1, kS_up k g1⟩
  | _ => rw [e] at k; exact k
theorem s_one {st : Stmt} {a : MS} (ha : PS X st (tS C E a)) : PSs X [st] (tS C E a) := pss_one ha
theorem s_if {c : Expr} {a b : List Stmt} {mc : ME} {ma mb : MS} (hc : PT X c (tT C E mc)) (ha : PSs X a (tS C E ma)) (hb : PSs X b (tS C E mb)) : PS X (.If c a b pos) (tS C E (sIf mc ma mb)) := by
  refine PS.imp (ps_if hc ha hb) fun Dn σ H ⟨r, ad, G, s, k⟩ => ⟨r, ad, G, s, ?_⟩
  unfold sIf at k
  unfold kT
  cases e : mc r with
  | bad => rw [e] at k; exact k
  | exc c fs => rw [e] at k; exact k
  | ok d r1 =>
    rw [e] at k
    cases d with
    | bl b =>
      refine ⟨b, rfl, fun G1 H1 s1 g1 => ?_⟩
      cases b with
      | true => exact iteT ⟨r1, ad, G1, s1, kS_up k g1.g⟩
      | false => exact iteF ⟨r1, ad, G1, s1, kS_up k g1.g⟩
    | _ => exact k.elim
theorem s_ret {e : Expr} {m : ME} (h : PE X e (tE C E m)) : PS X (.Return (some e) pos) (tS C E (sRet m)) := by
  refine PS.imp (ps_ret h) fun Dn σ H ⟨r, ad, G, s, k⟩ => ⟨r, ad, G, s, ?_⟩
  unfold sRet at k
  unfold kE
  cases e : m r with
  | bad => rw [e] at k; exact k
  | exc c fs => rw [e] at k; exact k
  | ok d r1 =>
    rw [e] at k
    exact fun v G1 H1 s1 g1 p1 => k v ad σ G1 H1 s1 p1
theorem s_exp {e : Expr} {m : ME} (h : PE X e (tE C E m)) (hs : swapsWith e none pos.line X.env = pure false := by rfl) : PS X (.Expr e pos) (tS C E (sExp m)) := by
  refine PS.imp (ps_expr h hs) fun Dn σ H ⟨r, ad, G, s, k⟩ => ⟨r, ad, G, s, ?_⟩
  unfold sExp at k
  unfold kE
  cases e : m r with
  | bad => rw [e] at k; exact k
  | exc c fs => rw [e] at k; exact k
  | ok d r1 =>
    rw [e] at k
    exact fun v G1 H1 s1 g1 p1 => k ad σ G1 H1 s1 g1.g
theorem s_asg {i : Nat} {x : Str} {e : Expr} {m : ME} {pos' : Pos} (hN : X.N.Nodup) (h : PE X e (tE C E m)) (hi : X.N[i]? = some x := by rfl) (hx : Loc X.env.scope x := by first | exact Or.inl rfl | exact Or.inr rfl)
    (hs : swapsWith e (some (.Name x pos')) pos.line X.env = pure false := by rfl) (hf : X.fn x = true ∨ X.env.scope.names.lookup x = some .local := by first | exact .inl rfl | exact .inr rfl | assumption) :
    PS X (.Assign [.Name x pos'] e pos) (tS C E (sAsg i m)) := by
  refine PS.imp (ps_set hN hi hx h hs hf) fun Dn σ H ⟨r, ad, G, s, k⟩ => ⟨r, ad, G, s, ?_⟩
  unfold sAsg at k
  unfold kE
  cases e : m r with
  | bad => rw [e] at k; exact k
  | exc c fs => rw [e] at k; exact k
  | ok d r1 =>
    rw [e] at k
    exact fun v G1 H1 s1 g1 p1 => k ad _ G1 H1 (s1.setD p1) g1.g
/-- slot i lies still from here on -/
theorem s_frz {st : Stmt} {a : MS} (i : Nat) (h : PS X st (tS C E a)) : PS X st (tS C E (sFrz i a)) := by
  refine PS.imp h fun Dn σ H ⟨r, ad, G, s, k⟩ => ?_
  unfold sFrz at k
  split at k
  · rename_i l e
    obtain ⟨G', g, s'⟩ := s.frz e
    exact ⟨_, ad, G', s', kS_up k g⟩
  · exact k.elim
end
end DL

/-! New lists held alone, targets, walks, comprehensions, defs. -/
namespace DL
open PySem PySem.Spec PyProof.Rows L2

/-! ### a new list that nobody else holds -/
def kO (C : Fc) (E : XK) (x : AR) (r : DEnv) (ad : Nat → Addr) (σ : L2.St) (G H : Hp) (Q : VK) : Prop :=
  match x with
  | .ok l r' => ∀ p xs G' H', Stt C r' ad σ G' H' → Kp C r r' ad G H G' H' → H p = none → G' p = none → H' p = some (.lst xs) → RpL C.K G' xs l → Q (.ref p) H'
  | .exc c fs => kX C E c fs
  | .bad => False
def tO (C : Fc) (E : XK) (m : MA) : TE := fun σ H Q => ∃ r ad G, Stt C r ad σ G H ∧ kO C E (m r) r ad σ G H Q
def mFrz (m : MA) : ME := fun r => match m r with
  | .ok l r1 => .ok (.lst l) r1
  | .exc c fs => .exc c fs
  | .bad => .bad
def mShort (m : MA) : MA := fun r => match m r with
  | .ok l r1 => if short l then .ok l r1 else .bad
  | .exc c fs => .exc c fs
  | .bad => .bad
section
variable {C : Fc} {r r' : DEnv} {ad : Nat → Addr} {σ : L2.St} {G H G' H' : Hp}
theorem new_own (s : Stt C r ad σ G H) (k : Kp C r r' ad G H G' H') {p : Addr} (n : H p = none) : ∀ j, isOwn r' j → ad j ≠ p := fun j h z => s.own_ne (k.o j h) (by rw [z]; exact n)
theorem new_H0 (s : Stt C r ad σ G H) {p : Addr} (n : H p = none) : C.H0 p = none := by
  cases q : C.H0 p with
  | none => rfl
  | some o => exact absurd n (s.hst.dom p (by rw [q]; simp))
theorem Kp.still (k : Kp C r r' ad G H G' H') {p : Addr} {o : HO} (n : H p = none) (g : G' p = none) : Kp C r r' ad G H (upd G' p o) H' :=
  ⟨k.g.trans (same_upd g), k.o, k.dom, k.domN, k.keep, fun b z y w => by
    have hb : b ≠ p := fun hb => by rw [hb, n] at z; exact z
    rw [upd_ne hb]
    exact k.nofz b z y w⟩
end
section
variable {X : Cx} {C : Fc} {E : XK} {pos : Pos}
theorem e_frz {e : Expr} {m : MA} (h : PE X e (tO C E m)) : PE X e (tE C E (mFrz m)) := by
  refine PE.imp h fun σ H Q ⟨r, ad, G, s, k⟩ => ⟨r, ad, G, s, ?_⟩
  unfold mFrz at k
  unfold kO
  cases e : m r with
  | bad => rw [e] at k; exact k
  | exc c fs => rw [e] at k; exact k
  | ok l r1 =>
    rw [e] at k
    intro p xs G1 H1 s1 k1 n g h1 p1
    have st := s1.still g (new_H0 s n) h1 (fun _ z => nomatch z) (new_own s k1 n)
    exact k (.ref p) _ H1 st (k1.still n g) (.lst upd_same (p1.up (same_upd g)))
theorem o_lst {es : List Expr} {a : MA} (ha : PA X es (tA C E a)) : PE X (.List es pos) (tO C E (mShort a)) := by
  refine PE.imp (pe_lst ha) fun σ H Q ⟨r, ad, G, s, k⟩ => ⟨r, ad, G, s, ?_⟩
  unfold mShort at k
  unfold kA
  cases e : a r with
  | bad => rw [e] at k; exact k
  | exc c fs => rw [e] at k; exact k
  | ok l r1 =>
    rw [e] at k
    simp only at k
    intro vs G1 H1 s1 k1 p1
    split at k
    · rename_i hs
      refine ⟨by rw [p1.length, sizeLine_eq]; exact of_decide_eq_true hs, fun p hp => ?_⟩
      have n : H p = none := by
        cases q : H p with
        | none => rfl
        | some o => exact absurd hp (k1.dom p (by rw [q]; simp))
      have gr : Grow G1 H1 G1 (upd H1 p (.lst vs)) := Grow.layH s1.hst.sub s1.hst.gnt hp
      exact k p vs G1 _ (s1.grow gr) (k1.trans (Kp.grow gr)) n (s1.hst.sub.free hp) upd_same p1
    · exact k.elim
def sAsgO (i : Nat) (a : MA) : MS := fun r => match a r with
  | .ok l r1 => .nx (r1.set i (.own false l))
  | .exc x fs => .exc x fs
  | .bad => .bad
theorem s_asgO {i : Nat} {x : Str} {e : Expr} {m : MA} {pos' : Pos} (hN : X.N.Nodup) (h : PE X e (tO C E m)) (hi : X.N[i]? = some x := by rfl) (hx : Loc X.env.scope x := by first | exact Or.inl rfl | exact Or.inr rfl)
    (hs : swapsWith e (some (.Name x pos')) pos.line X.env = pure false := by rfl) (hf : X.fn x = true ∨ X.env.scope.names.lookup x = some .local := by first | exact .inl rfl | exact .inr rfl | assumption) :
    PS X (.Assign [.Name x pos'] e pos) (tS C E (sAsgO i m)) := by
  refine PS.imp (ps_set hN hi hx h hs hf) fun Dn σ H ⟨r, ad, G, s, k⟩ => ⟨r, ad, G, s, ?_⟩
  unfold sAsgO at k
  unfold kO
  cases e : m r with
  | bad => rw [e] at k; exact k
  | exc c fs => rw [e] at k; exact k
  | ok l r1 =>
    rw [e] at k
    intro p xs G1 H1 s1 k1 n g h1 p1
    exact k _ _ G1 H1 (s1.setN (new_own s k1 n) g (new_H0 s n) (.inl ⟨l, xs, rfl, h1, p1⟩)) k1.g
def sRetO (a : MA) : MS := fun r => match a r with
  | .ok l r1 => .rtO l r1
  | .exc x fs => .exc x fs
  | .bad => .bad
theorem s_retO {e : Expr} {m : MA} (h : PE X e (tO C E m)) : PS X (.Return (some e) pos) (tS C E (sRetO m)) := by
  refine PS.imp (ps_ret h) fun Dn σ H ⟨r, ad, G, s, k⟩ => ⟨r, ad, G, s, ?_⟩
  unfold sRetO at k
  unfold kO
  cases e : m r with
  | bad => rw [e] at k; exact k
  | exc c fs => rw [e] at k; exact k
  | ok l r1 =>
    rw [e] at k
    intro p xs G1 H1 s1 k1 n g h1 p1
    exact k p xs ad σ G1 H1 s1 (new_own s k1 n) (new_H0 s n) g h1 p1

/-! ### targets -/
abbrev GD := D → DEnv → Option DEnv
def tGt (C : Fc) (g : GD) : TG := fun v σ H Q => ∃ r ad G d, Stt C r ad σ G H ∧ Rp C.K G v d ∧ ∃ r', g d r = some r' ∧ ∀ σ' G' H', Stt C r' ad σ' G' H' → Kp C r r' ad G H G' H' → Q σ' H'
def tGs (C : Fc) (g : List D → DEnv → Option DEnv) : TGs := fun vs σ H Q => ∃ r ad G ds, Stt C r ad σ G H ∧ RpL C.K G vs ds ∧ ∃ r', g ds r = some r' ∧ ∀ σ' G' H', Stt C r' ad σ' G' H' → Kp C r r' ad G H G' H' → Q σ' H'
def gN (i : Nat) : GD := fun d r => some (r.set i (.dat d))
def gsNil : List D → DEnv → Option DEnv := fun l r => match l with
  | [] => some r
  | _ => none
def gsCons (g : GD) (gs : List D → DEnv → Option DEnv) : List D → DEnv → Option DEnv := fun l r => match l with
  | d :: l => (g d r).bind fun r1 => gs l r1
  | [] => none
def gTup2 (n : Nat) (gs : List D → DEnv → Option DEnv) : GD := fun d r => match d with
  | .tup l => if l.length = n then gs l r else none
  | .lst l => if l.length = n then gs l r else none
  | .cst l => if l.length = n then gs l r else none
  | _ => none
theorem kp_setD {C : Fc} {r : DEnv} {ad : Nat → Addr} {G H : Hp} {i : Nat} {d : D} : Kp C r (r.set i (.dat d)) ad G H G H :=
  ⟨Same.refl _, fun j h => (own_set_dat h).2, fun _ z => z, fun _ z => z, fun _ _ z _ _ => z, fun _ _ z _ => z⟩
theorem g_n {i : Nat} {x : Str} (hN : X.N.Nodup) (hi : X.N[i]? = some x := by rfl) (hx : Loc X.env.scope x := by first | exact Or.inl rfl | exact Or.inr rfl) (hf : X.fn x = true ∨ X.env.scope.names.lookup x = some .local := by first | exact .inl rfl | exact .inr rfl | assumption) :
    PG X (.Name x pos) (tGt C (gN i)) := by
  refine ⟨fun pins s σ H v u Q I rv h => (pg_name hN hi hx hf).run pins s σ H v u Q I rv ?_⟩
  obtain ⟨r, ad, G, d, st, p, r', e, k⟩ := h
  cases e
  exact k _ G H (st.setD p) kp_setD
theorem gs_nil : PGs X [] (tGs C gsNil) := by
  refine ⟨fun pins s σ H vs us Q I rv h => pgs_nil.run pins s σ H vs us Q I rv ?_⟩
  obtain ⟨r, ad, G, ds, st, p, r', e, k⟩ := h
  cases p with
  | nil =>
    cases e
    exact ⟨rfl, k _ G H st (Kp.refl _ _ _ _ _)⟩
  | cons _ _ => cases e
theorem gs_cons {e : Expr} {es : List Expr} {g : GD} {gs : List D → DEnv → Option DEnv} (h1 : PG X e (tGt C g)) (h2 : PGs X es (tGs C gs))
    (hs : (assignEach (e :: es) X.env).map (·.2) = assign e X.env :: (assignEach es X.env).map (·.2) := by rfl) : PGs X (e :: es) (tGs C (gsCons g gs)) := by
  refine ⟨fun pins s σ H vs us Q I rv h => (pgs_cons h1 h2 hs).run pins s σ H vs us Q I rv ?_⟩
  obtain ⟨r, ad, G, ds, st, p, r', e, k⟩ := h
  cases p with
  | nil => cases e
  | cons p1 p2 =>
    rename_i v vs d ds
    unfold gsCons at e
    simp only at e
    cases eg : g d r with
    | none => rw [eg] at e; cases e
    | some r1 =>
      rw [eg] at e
      refine ⟨v, vs, rfl, r, ad, G, d, st, p1, r1, eg, fun σ1 G1 H1 s1 k1 => ?_⟩
      exact ⟨r1, ad, G1, ds, s1, p2.up k1.g, r', e, fun σ2 G2 H2 s2 k2 => k σ2 G2 H2 s2 (k1.trans k2)⟩
theorem g_tup {es : List Expr} {kk : Nat} {gs : List D → DEnv → Option DEnv} {n : Nat} (h : PGs X es (tGs C gs)) (hK : C.K = X.K := by rfl) (hc : X.calm = true := by rfl)
    (hn : (assignEach es X.env).length = n := by rfl) (hst : (assignEach es X.env).findIdx? (·.1) = none := by rfl) : PG X (.Tuple es kk pos) (tGt C (gTup2 n gs)) := by
  refine ⟨fun pins s σ H v u Q I rv h0 => ?_⟩
  obtain ⟨r, ad, G, d, st, p, r', e, k⟩ := h0
  unfold gTup2 at e
  cases d <;> first | (cases e; done) | skip
  · rename_i l
    simp only at e
    split at e
    · rename_i hl
      cases p with
      | tup hs hp =>
        refine (pg_tup hc h hn hst).run pins s σ H _ u Q I rv ⟨_, _, rfl, SqT.of (st.hst.sub _ _ hs), hp.length.trans hl, r, ad, G, l, st, hp, r', e, k⟩
    · cases e
  · rename_i l
    simp only at e
    split at e
    · rename_i hl
      cases p with
      | lst hs hp =>
        refine (pg_unl hc h hn hst).run pins s σ H _ u Q I rv ⟨_, _, rfl, SqL.of (st.hst.sub _ _ hs), hp.length.trans hl, r, ad, G, l, st, hp, r', e, k⟩
    · cases e
  · rename_i l
    simp only at e
    split at e
    · rename_i hl
      cases p with
      | cst hs hp =>
        refine (pg_tup hc h hn hst).run pins s σ H _ u Q I rv ⟨_, _, rfl, hK ▸ SqT_same st.hst.sub hs, hp.length.trans hl, r, ad, G, l, st, hp, r', e, k⟩
    · cases e
def sAsgT (g : GD) (a : ME) : MS := fun r => match a r with
  | .ok d r1 => (match g d r1 with
    | some r2 => .nx r2
    | none => .bad)
  | .exc x fs => .exc x fs
  | .bad => .bad
theorem s_asgT {tg e : Expr} {g : GD} {m : ME} (he : PE X e (tE C E m)) (hg : PG X tg (tGt C g)) (hs : swapsWithSole [tg] e pos.line X.env = pure false := by rfl) (hw : swappedStores [tg] e X.env = pure none := by rfl)
    (h1 : (assignEach [tg] X.env).map (·.2) = [assign tg X.env] := by rfl) : PS X (.Assign [tg] e pos) (tS C E (sAsgT g m)) := by
  refine PS.imp (ps_asg he hg hs hw h1) fun Dn σ H ⟨r, ad, G, s, k⟩ => ⟨r, ad, G, s, ?_⟩
  unfold sAsgT at k
  unfold kE
  cases e : m r with
  | bad => rw [e] at k; exact k
  | exc c fs => rw [e] at k; exact k
  | ok d r1 =>
    rw [e] at k
    simp only at k
    intro v G1 H1 s1 k1 p1
    cases eg : g d r1 with
    | none => rw [eg] at k; exact k.elim
    | some r2 =>
      rw [eg] at k
      exact ⟨r1, ad, G1, d, s1, p1, r2, eg, fun σ2 G2 H2 s2 k2 => k ad σ2 G2 H2 s2 (k1.g.trans k2.g)⟩

/-! ### what is walked -/
structure WkD (C : Fc) (G : Hp) (J : It) (ds : List D) : Prop where
  w : Walk J ds.length (fun H => Same G H) (fun i H x H' => ∀ G1, Same G G1 → Same G1 H → (∀ b ps, G1 b ≠ some (.tbl ps)) → ∃ G2, Grow G1 H G2 H' ∧ ∃ d, ds[i]? = some d ∧ Rp C.K G2 x d)
def kI (C : Fc) (E : XK) (x : AR) (r : DEnv) (ad : Nat → Addr) (σ : L2.St) (G H : Hp) (R : It → Hp → Prop) : Prop :=
  match x with
  | .ok l r' => ∀ J G' H', Stt C r' ad σ G' H' → Kp C r r' ad G H G' H' → WkD C G' J l → R J H'
  | .exc c fs => kX C E c fs
  | .bad => False
def tI (C : Fc) (E : XK) (m : MA) : TI := fun σ H R => ∃ r ad G, Stt C r ad σ G H ∧ kI C E (m r) r ad σ G H R
theorem PI.imp {tg it : Expr} {t t' : TI} (h : PI X tg it t) (i : ∀ σ H R, t' σ H R → t σ H R) : PI X tg it t' := ⟨fun pins s σ H R I q => h.run pins s σ H R I (i _ _ _ q)⟩
theorem Grow.refl2 {G H : Hp} (sub : Same G H) (gnt : ∀ b ps, G b ≠ some (.tbl ps)) : Grow G H G H := ⟨Same.refl _, Same.refl _, sub, gnt, fun _ _ z => z⟩
theorem wk_list {G : Hp} {a : Addr} {xs : List V} {l : List D} (h : G a = some (.lst xs)) (p : RpL C.K G xs l) : WkD C G (Itl C.K a) l := by
  refine ⟨?_⟩
  rw [← p.length]
  refine Walk.mono walk_list (fun H q => SqL.of (q _ _ h)) fun i H x H' hi q y => ?_
  obtain ⟨rfl, e⟩ := y
  intro G1 g1 s1 n1
  have hi' : i < l.length := by rw [← p.length]; exact hi
  obtain ⟨v, e1, e2⟩ := p.get (i := i) (d := l[i]) (by simp [hi'])
  rw [e] at e1; cases e1
  exact ⟨G1, Grow.refl2 s1 n1, l[i], by simp [hi'], e2.up g1⟩
theorem wk_tup {G : Hp} {a : Addr} {xs : List V} {l : List D} (h : SqT C.K G a xs) (p : RpL C.K G xs l) : WkD C G (Itt C.K a) l := by
  refine ⟨?_⟩
  rw [← p.length]
  refine Walk.mono walk_tup (fun H q => SqT_same q h) fun i H x H' hi q y => ?_
  obtain ⟨rfl, e⟩ := y
  intro G1 g1 s1 n1
  have hi' : i < l.length := by rw [← p.length]; exact hi
  obtain ⟨v, e1, e2⟩ := p.get (i := i) (d := l[i]) (by simp [hi'])
  rw [e] at e1; cases e1
  exact ⟨G1, Grow.refl2 s1 n1, l[i], by simp [hi'], e2.up g1⟩
def mSeq (m : ME) : MA := fun r => match m r with
  | .ok (.lst l) r1 => .ok l r1
  | .ok (.tup l) r1 => .ok l r1
  | .ok (.cst l) r1 => .ok l r1
  | .exc c fs => .exc c fs
  | _ => .bad
theorem i_seq {tg e : Expr} {m : ME} (h : PE X e (tE C E m)) (hK : C.K = X.K := by rfl) : PI X tg e (tI C E (mSeq m)) := by
  refine ⟨fun pins s σ H R I hh => ?_⟩
  obtain ⟨r, ad, G, st, k⟩ := hh
  unfold mSeq at k
  unfold kI at k
  cases e1 : m r with
  | bad => rw [e1] at k; exact k.elim
  | exc c fs => rw [e1] at k; exact (pi_list h).run pins s σ H R I ⟨r, ad, G, st, by unfold kE; rw [e1]; exact k⟩
  | ok d r1 =>
    rw [e1] at k
    cases d with
    | lst l =>
      refine (pi_list h).run pins s σ H R I ⟨r, ad, G, st, ?_⟩
      unfold kE
      rw [e1]
      intro v G1 H1 s1 k1 p1
      cases p1 with
      | lst hs hp => exact ⟨_, rfl, ⟨_, SqL.of (s1.hst.sub _ _ hs)⟩, by rw [← hK]; exact k _ G1 H1 s1 k1 (wk_list hs hp)⟩
    | tup l =>
      refine (pi_tup h).run pins s σ H R I ⟨r, ad, G, st, ?_⟩
      unfold kE
      rw [e1]
      intro v G1 H1 s1 k1 p1
      cases p1 with
      | tup hs hp => exact ⟨_, rfl, ⟨_, SqT.of (s1.hst.sub _ _ hs)⟩, by rw [← hK]; exact k _ G1 H1 s1 k1 (wk_tup (SqT.of hs) hp)⟩
    | cst l =>
      refine (pi_tup h).run pins s σ H R I ⟨r, ad, G, st, ?_⟩
      unfold kE
      rw [e1]
      intro v G1 H1 s1 k1 p1
      cases p1 with
      | cst hs hp => exact ⟨_, rfl, ⟨_, by rw [← hK]; exact SqT_same s1.hst.sub hs⟩, by rw [← hK]; exact k _ G1 H1 s1 k1 (wk_tup hs hp)⟩
    | _ => exact k.elim

/-! ### for -/
def forL (g : GD) (b : MS) : List D → DEnv → SR
  | [], r => .nx r
  | d :: l, r => match g d r with
    | none => .bad
    | some r1 => match b r1 with
      | .nx r2 => forL g b l r2
      | .ct r2 => forL g b l r2
      | .bk r2 => .nx r2
      | x => x
def sFor (it : MA) (g : GD) (b : MS) : MS := fun r => match it r with
  | .ok l r1 => forL g b l r1
  | .exc c fs => .exc c fs
  | .bad => .bad
theorem s_for {tg iter : Expr} {body : List Stmt} {it : MA} {g : GD} {b : MS} (hp : PassesOwn (model X.prog X.w) X.A X.env X.xe) (hi : PI X tg iter (tI C E it)) (hg : PG X tg (tGt C g)) (hb : PSs X body (tS C E b)) (hc : X.calm = true := by rfl)
    (hs : ∀ x, foldedSetIterable iter X.env x = pure x := by intro _; rfl) : PS X (.For tg iter body [] pos) (tS C E (sFor it g b)) := by
  refine PS.imp (ps_for hp hc hi hg hb hs) fun Dn σ H ⟨r, ad, G, s, k⟩ => ⟨r, ad, G, s, ?_⟩
  unfold sFor at k
  unfold kI
  cases e : it r with
  | bad => rw [e] at k; exact k
  | exc c fs => rw [e] at k; exact k
  | ok l r1 =>
    rw [e] at k
    simp only at k
    intro J G1 H1 s1 k1 w
    refine for_it w.w (fun i σ2 H2 => ∃ r2 ad2 G2, Stt C r2 ad2 σ2 G2 H2 ∧ Same G1 G2 ∧ kS C E (forL g b (l.drop i) r2) G2 Dn) ⟨r1, ad, G1, s1, Same.refl _, kS_up k k1.g⟩ (fun i σ2 H2 hi ⟨r2, ad2, G2, s2, g2, _⟩ => g2.trans s2.hst.sub) ?_ ?_
    · rintro i x σ2 H2 H3 hi ⟨r2, ad2, G2, s2, g2, k2⟩ y
      obtain ⟨G3, gr, d, ed, pd⟩ := y G2 g2 s2.hst.sub s2.hst.gnt
      have s3 := s2.grow gr
      have dr : l.drop i = d :: l.drop (i + 1) := by
        have hi' : i < l.length := hi
        rw [List.drop_eq_getElem_cons hi']
        congr 1
        have := List.getElem?_eq_getElem hi'
        rw [this] at ed
        exact Option.some.inj ed
      rw [dr] at k2
      unfold forL at k2
      cases eg : g d r2 with
      | none => simp only [eg] at k2; exact k2.elim
      | some r4 =>
        simp only [eg] at k2
        refine ⟨r2, ad2, G3, d, s3, pd, r4, eg, fun σ4 G4 H4 s4 k4 => ⟨r4, ad2, G4, s4, ?_⟩⟩
        have g4 : Same G2 G4 := gr.g.trans k4.g
        have step : ∀ {r5 : DEnv}, kS C E (forL g b (l.drop (i + 1)) r5) G2 Dn → ∀ ad5 σ5 G5 H5, Stt C r5 ad5 σ5 G5 H5 → Same G4 G5 → ∃ r2 ad2 G2, Stt C r2 ad2 σ5 G2 H5 ∧ Same G1 G2 ∧ kS C E (forL g b (l.drop (i + 1)) r2) G2 Dn :=
          fun {r5} kk ad5 σ5 G5 H5 s5 g5 => ⟨r5, ad5, G5, s5, g2.trans (g4.trans g5), kS_up kk (g4.trans g5)⟩
        cases eb : b r4 with
        | nx r5 => simp only [eb] at k2; exact fun ad5 σ5 G5 H5 s5 g5 => step k2 ad5 σ5 G5 H5 s5 g5
        | ct r5 => simp only [eb] at k2; exact fun ad5 σ5 G5 H5 s5 g5 => step k2 ad5 σ5 G5 H5 s5 g5
        | bk r5 => simp only [eb] at k2; exact fun ad5 σ5 G5 H5 s5 g5 => k2 ad5 σ5 G5 H5 s5 (g4.trans g5)
        | rt d r5 => simp only [eb] at k2; exact k2
        | rtO l r5 => simp only [eb] at k2; exact k2
        | exc c fs => simp only [eb] at k2; exact k2
        | bad => simp only [eb] at k2; exact k2
    · rintro σ2 H2 ⟨r2, ad2, G2, s2, g2, k2⟩
      rw [List.drop_length] at k2
      exact k2 ad2 σ2 G2 H2 s2 (Same.refl _)
end
end DL

/-! Comprehensions, stores, calls, defs. -/
namespace DL
open PySem PySem.Spec PyProof.Rows L2

/-! ### comprehensions -/
def wipeR (r : DEnv) : List Nat → DEnv
  | [] => r
  | v :: vs => (wipeR r vs).set v .un
theorem wipeR_length (r : DEnv) : ∀ vs, (wipeR r vs).length = r.length
  | [] => rfl
  | v :: vs => by unfold wipeR; rw [List.length_set, wipeR_length r vs]
theorem wipeR_some {r : DEnv} {i : Nat} {x : Sl} : ∀ {vs : List Nat}, (wipeR r vs)[i]? = some x → (i ∈ vs ∧ x = .un) ∨ (i ∉ vs ∧ r[i]? = some x)
  | [], h => .inr ⟨by simp, h⟩
  | v :: vs, h => by
    unfold wipeR at h
    rcases get_set h with ⟨e, ex, _⟩ | ⟨n, h⟩
    · exact .inl ⟨by rw [e]; exact List.mem_cons_self, ex⟩
    · rcases wipeR_some h with ⟨a, b⟩ | ⟨a, b⟩
      · exact .inl ⟨List.mem_cons_of_mem _ a, b⟩
      · exact .inr ⟨by simp [n, a], b⟩
theorem own_wipe {r : DEnv} {i : Nat} {vs : List Nat} (h : isOwn (wipeR r vs) i) : i ∉ vs ∧ isOwn r i := by
  obtain ⟨x, e, n, nd⟩ := h.get
  rcases wipeR_some e with ⟨_, e⟩ | ⟨m, e⟩
  · exact absurd e n
  · exact ⟨m, .of e n nd⟩
section
variable {C : Fc} {r : DEnv} {ad : Nat → Addr} {σ σ' : L2.St} {G H : Hp}
/-- slots outside of vs are the same -/
theorem Stt.wipe (s : Stt C r ad σ G H) {vs : List Nat} (hl : σ'.length = σ.length) (he : ∀ i, i ∉ vs → σ'[i]? = σ[i]?) : Stt C (wipeR r vs) ad σ' G H := by
  refine ⟨s.hst, by rw [wipeR_length, hl]; exact s.len, fun i d e => ?_, fun i k l e => ?_, fun i t l e => ?_, fun i c l e => ?_, fun i j a b => s.inj i j (own_wipe a).2 (own_wipe b).2⟩
  · rcases wipeR_some e with ⟨_, e⟩ | ⟨n, e⟩
    · cases e
    · obtain ⟨v, h1, h2⟩ := s.dat i d e
      exact ⟨v, by rw [he i n]; exact h1, h2⟩
  · rcases wipeR_some e with ⟨_, e⟩ | ⟨n, e⟩
    · cases e
    · obtain ⟨h1, h2⟩ := s.own i k l e
      exact ⟨by rw [he i n]; exact h1, h2⟩
  · rcases wipeR_some e with ⟨_, e⟩ | ⟨n, e⟩
    · cases e
    · obtain ⟨h1, h2⟩ := s.ownD i t l e
      exact ⟨by rw [he i n]; exact h1, h2⟩
  · rcases wipeR_some e with ⟨_, e⟩ | ⟨n, e⟩
    · cases e
    · obtain ⟨h1, h2⟩ := s.ownI i c l e
      exact ⟨by rw [he i n]; exact h1, h2⟩
theorem wipe_eq_out {vs : List Nat} (h : L2.wipe σ' vs = L2.wipe σ vs) {i : Nat} (n : i ∉ vs) : σ'[i]? = σ[i]? := by
  rw [← wipe_out (σ := σ') n, h, wipe_out n]
theorem wipe_eq_len {vs : List Nat} (h : L2.wipe σ' vs = L2.wipe σ vs) : σ'.length = σ.length := by
  rw [← wipe_length σ' vs, h, wipe_length]
end
/-- a target that stores to the slots vs alone -/
def tGk (vs : List Nat) (C : Fc) (g : GD) : TG := fun v σ H Q => ∃ r ad G d, Stt C r ad σ G H ∧ Rp C.K G v d ∧ ∃ r', g d r = some r' ∧ ∀ σ' G' H', L2.wipe σ' vs = L2.wipe σ vs → Stt C r' ad σ' G' H' → Kp C r r' ad G H G' H' → Q σ' H'
def tGks (vs : List Nat) (C : Fc) (g : List D → DEnv → Option DEnv) : TGs := fun v σ H Q => ∃ r ad G d, Stt C r ad σ G H ∧ RpL C.K G v d ∧ ∃ r', g d r = some r' ∧ ∀ σ' G' H', L2.wipe σ' vs = L2.wipe σ vs → Stt C r' ad σ' G' H' → Kp C r r' ad G H G' H' → Q σ' H'
structure GOk (vs : List Nat) (X : Cx) (C : Fc) (tg : Expr) (g : GD) : Prop where
  run : PG X tg (tGk vs C g)
structure GsOk (vs : List Nat) (X : Cx) (C : Fc) (tg : List Expr) (g : List D → DEnv → Option DEnv) : Prop where
  run : PGs X tg (tGks vs C g)
theorem wipe_set {σ : L2.St} {i : Nat} {x : Option V} : ∀ {vs : List Nat}, i ∈ vs → L2.wipe (σ.set i x) vs = L2.wipe σ vs
  | [], h => by cases h
  | v :: vs, h => by
    unfold L2.wipe
    by_cases hm : i ∈ vs
    · rw [wipe_set hm]
    · have e : i = v := by
        rcases List.mem_cons.mp h with z | z
        · exact z
        · exact absurd z hm
      subst e
      apply List.ext_getElem?
      intro j
      by_cases hj : j = i
      · subst hj
        rw [List.getElem?_set, List.getElem?_set, wipe_length, wipe_length, List.length_set, if_pos rfl, if_pos rfl]
      · rw [set_no hj, set_no hj]
        by_cases hv : j ∈ vs
        · have hl : ∀ τ : L2.St, j ∈ vs → (L2.wipe τ vs)[j]? = if j < τ.length then some none else none := by
            intro τ hv
            have : ∀ (ws : List Nat), j ∈ ws → (L2.wipe τ ws)[j]? = if j < τ.length then some none else none := by
              intro ws
              induction ws with
              | nil => intro h; cases h
              | cons w ws ih =>
                intro h
                unfold L2.wipe
                rw [List.getElem?_set]
                by_cases hw : w = j
                · rw [if_pos hw, wipe_length, hw]
                · rw [if_neg hw]
                  rcases List.mem_cons.mp h with z | z
                  · exact absurd z.symm hw
                  · exact ih z
            exact this vs hv
          rw [hl _ hv, hl _ hv, List.length_set]
        · rw [wipe_out hv, wipe_out hv, set_no hj]
section
variable {X : Cx} {C : Fc} {E : XK} {pos : Pos} {vs : List Nat}
theorem gk_n {i : Nat} {x : Str} (hN : X.N.Nodup) (hv : i ∈ vs := by decide) (hi : X.N[i]? = some x := by rfl) (hx : Loc X.env.scope x := by first | exact Or.inl rfl | exact Or.inr rfl) (hf : X.fn x = true ∨ X.env.scope.names.lookup x = some .local := by first | exact .inl rfl | exact .inr rfl | assumption) :
    GOk vs X C (.Name x pos) (gN i) := by
  refine ⟨⟨fun pins s σ H v u Q I rv h => (pg_name hN hi hx hf).run pins s σ H v u Q I rv ?_⟩⟩
  obtain ⟨r, ad, G, d, st, p, r', e, k⟩ := h
  cases e
  exact k _ G H (wipe_set hv) (st.setD p) kp_setD
theorem gks_nil : GsOk vs X C [] gsNil := by
  refine ⟨⟨fun pins s σ H vs us Q I rv h => pgs_nil.run pins s σ H vs us Q I rv ?_⟩⟩
  obtain ⟨r, ad, G, ds, st, p, r', e, k⟩ := h
  cases p with
  | nil =>
    cases e
    exact ⟨rfl, k _ G H rfl st (Kp.refl _ _ _ _ _)⟩
  | cons _ _ => cases e
theorem gks_cons {e : Expr} {es : List Expr} {g : GD} {gs : List D → DEnv → Option DEnv} (h1 : GOk vs X C e g) (h2 : GsOk vs X C es gs)
    (hs : (assignEach (e :: es) X.env).map (·.2) = assign e X.env :: (assignEach es X.env).map (·.2) := by rfl) : GsOk vs X C (e :: es) (gsCons g gs) := by
  refine ⟨⟨fun pins s σ H us ws Q I rv h => (pgs_cons h1.run h2.run hs).run pins s σ H us ws Q I rv ?_⟩⟩
  obtain ⟨r, ad, G, ds, st, p, r', e, k⟩ := h
  cases p with
  | nil => cases e
  | cons p1 p2 =>
    rename_i v vs' d ds
    unfold gsCons at e
    simp only at e
    cases eg : g d r with
    | none => rw [eg] at e; cases e
    | some r1 =>
      rw [eg] at e
      refine ⟨v, vs', rfl, r, ad, G, d, st, p1, r1, eg, fun σ1 G1 H1 w1 s1 k1 => ?_⟩
      exact ⟨r1, ad, G1, ds, s1, p2.up k1.g, r', e, fun σ2 G2 H2 w2 s2 k2 => k σ2 G2 H2 (w2.trans w1) s2 (k1.trans k2)⟩
theorem gk_tup {es : List Expr} {kk : Nat} {gs : List D → DEnv → Option DEnv} {n : Nat} (h : GsOk vs X C es gs) (hK : C.K = X.K := by rfl) (hc : X.calm = true := by rfl)
    (hn : (assignEach es X.env).length = n := by rfl) (hst : (assignEach es X.env).findIdx? (·.1) = none := by rfl) : GOk vs X C (.Tuple es kk pos) (gTup2 n gs) := by
  refine ⟨⟨fun pins s σ H v u Q I rv h0 => ?_⟩⟩
  obtain ⟨r, ad, G, d, st, p, r', e, k⟩ := h0
  unfold gTup2 at e
  cases d <;> first | (cases e; done) | skip
  · rename_i l
    simp only at e
    split at e
    · rename_i hl
      cases p with
      | tup hs hp =>
        refine (pg_tup hc h.run hn hst).run pins s σ H _ u Q I rv ⟨_, _, rfl, SqT.of (st.hst.sub _ _ hs), hp.length.trans hl, r, ad, G, l, st, hp, r', e, k⟩
    · cases e
  · rename_i l
    simp only at e
    split at e
    · rename_i hl
      cases p with
      | lst hs hp =>
        refine (pg_unl hc h.run hn hst).run pins s σ H _ u Q I rv ⟨_, _, rfl, SqL.of (st.hst.sub _ _ hs), hp.length.trans hl, r, ad, G, l, st, hp, r', e, k⟩
    · cases e
  · rename_i l
    simp only at e
    split at e
    · rename_i hl
      cases p with
      | cst hs hp =>
        refine (pg_tup hc h.run hn hst).run pins s σ H _ u Q I rv ⟨_, _, rfl, hK ▸ SqT_same st.hst.sub hs, hp.length.trans hl, r, ad, G, l, st, hp, r', e, k⟩
    · cases e
end
/-- one turn after another: what is made, the slots -/
def lcL (g : GD) (c e : ME) (vs : List Nat) : List D → DEnv → AR
  | [], r => .ok [] r
  | d :: l, r => match g d r with
    | none => .bad
    | some r1 => match c r1 with
      | .ok (.bl true) r2 => (match e r2 with
        | .ok x r3 => (match lcL g c e vs l (wipeR r3 vs) with
          | .ok m r4 => .ok (x :: m) r4
          | y => y)
        | _ => .bad)
      | .ok (.bl false) r2 => lcL g c e vs l (wipeR r2 vs)
      | _ => .bad
def mLc (it : MA) (g : GD) (c e : ME) (vs : List Nat) : MA := fun r => match it r with
  | .ok l r1 => (match lcL g c e vs l (wipeR r1 vs) with
    | .ok m r2 => if short m then .ok m r2 else .bad
    | y => y)
  | .exc x fs => .exc x fs
  | .bad => .bad
theorem lcL_len {g : GD} {c e : ME} {vs : List Nat} : ∀ {l : List D} {r r' : DEnv} {m : List D}, lcL g c e vs l r = .ok m r' → m.length ≤ l.length
  | [], r, r', m, h => by cases h; exact Nat.le_refl _
  | d :: l, r, r', m, h => by
    unfold lcL at h
    cases eg : g d r with
    | none => simp only [eg] at h; cases h
    | some r1 =>
      simp only [eg] at h
      cases ec : c r1 with
      | bad => simp only [ec] at h; cases h
      | exc x fs => simp only [ec] at h; cases h
      | ok b r2 =>
        simp only [ec] at h
        cases b with
        | bl b =>
          cases b with
          | true =>
            simp only at h
            cases ee : e r2 with
            | bad => simp only [ee] at h; cases h
            | exc x fs => simp only [ee] at h; cases h
            | ok x r3 =>
              simp only [ee] at h
              cases el : lcL g c e vs l (wipeR r3 vs) with
              | bad => simp only [el] at h; cases h
              | exc x fs => simp only [el] at h; cases h
              | ok m' r4 =>
                simp only [el] at h
                cases h
                have := lcL_len el
                simp only [List.length_cons]
                omega
          | false =>
            simp only at h
            have := lcL_len h
            simp only [List.length_cons]
            omega
        | _ => simp only at h; cases h
theorem kX_E0 {C : Fc} {c : Str} {fs : List (Str × D)} {G H : Hp} : True := trivial
section
variable {X : Cx} {C : Fc} {E : XK} {pos : Pos}
def mYes : ME := fun r => .ok (.bl true) r
theorem c_yes {Y : Cx} : PTs Y [] (tT C E0 mYes) := ⟨fun pins s σ H Q I h => pts_nil.run pins s σ H Q I (by
  obtain ⟨r, ad, G, st, b, e, k⟩ := h
  cases e
  exact k G H st (Kp.refl _ _ _ _ _))⟩
theorem c_one {Y : Cx} {c : Expr} {m : ME} (h : PT Y c (tT C E0 m)) : PTs Y [c] (tT C E0 m) := pts_one h
/-- in a block an exception is not awaited: kX of E0 at a state that stands is refuted by the meaning (.bad there) -/
theorem lc_imp {it : MA} {g : GD} {mc me : ME} {vs : List Nat} : ∀ (σ : L2.St) (H : Hp) (Q : VK), tO C E (mLc it g mc me vs) σ H Q → tLc (tI C E it) (tGk vs C g) (tT C E0 mc) (tE C E0 me) vs σ H Q := by
  intro σ H Q ⟨r, ad, G, s, k⟩
  refine ⟨r, ad, G, s, ?_⟩
  unfold mLc at k
  unfold kI
  cases e : it r with
  | bad => rw [e] at k; exact k
  | exc c fs => rw [e] at k; exact k
  | ok l r1 =>
    rw [e] at k
    simp only at k
    intro J G1 H1 s1 k1 w D0 hD
    have nD : H D0 = none := by
      cases q : H D0 with
      | none => rfl
      | some o => exact absurd hD (k1.dom D0 (by rw [q]; simp))
    -- the state before a turn: slots outside of vs as σ says, the new list at D0
    cases el : lcL g mc me vs l (wipeR r1 vs) with
    | bad => rw [el] at k; exact k.elim
    | exc c fs =>
      -- never: lcL gives no exc
      exfalso
      have noexc : ∀ (l : List D) (r : DEnv) c fs, lcL g mc me vs l r ≠ .exc c fs := by
        intro l
        induction l with
        | nil => intro r c fs h; cases h
        | cons d l ih =>
          intro r c fs h
          unfold lcL at h
          cases eg : g d r with
          | none => simp only [eg] at h; cases h
          | some r1 =>
            simp only [eg] at h
            cases ec : mc r1 with
            | bad => simp only [ec] at h; cases h
            | exc x fs => simp only [ec] at h; cases h
            | ok b r2 =>
              simp only [ec] at h
              cases b with
              | bl b =>
                cases b with
                | true =>
                  simp only at h
                  cases ee : me r2 with
                  | bad => simp only [ee] at h; cases h
                  | exc x fs => simp only [ee] at h; cases h
                  | ok x r3 =>
                    simp only [ee] at h
                    cases el : lcL g mc me vs l (wipeR r3 vs) with
                    | bad => simp only [el] at h; cases h
                    | exc x' fs' => exact ih _ _ _ el
                    | ok m' r4 => simp only [el] at h; cases h
                | false =>
                  simp only at h
                  exact ih _ _ _ h
              | _ => simp only at h; cases h
      exact noexc _ _ _ _ el
    | ok m rz =>
      rw [el] at k
      simp only at k
      split at k
      · rename_i hsh
        have hm : m.length ≤ 16777216 := of_decide_eq_true hsh
        refine lc_it (g := tGk vs C g) (tt := tT C E0 mc) (te := tE C E0 me) (vs := vs) (σ := σ) (H1 := H1) (D := D0) (Qd := fun H => Q (.ref D0) H) w.w (fun i H2 => ∃ r2 G2 acc ds m2, Stt C r2 ad (L2.wipe σ vs) G2 H2 ∧ Kp C r r2 ad G H G2 H2 ∧ Same G1 G2 ∧ H2 D0 = some (.lst acc) ∧ G2 D0 = none ∧ RpL C.K G2 acc ds ∧ lcL g mc me vs (l.drop i) r2 = .ok m2 rz ∧ m = ds ++ m2) ?_ ?_ ?_ ?_
        · have gr : Grow G1 H1 G1 (upd H1 D0 (.lst [])) := Grow.layH s1.hst.sub s1.hst.gnt hD
          have s2 := s1.grow gr
          have s3 := s2.wipe (σ' := L2.wipe σ vs) (vs := vs) (wipe_length _ _) (fun i n => wipe_out n)
          refine ⟨_, G1, [], [], m, s3, (k1.trans (Kp.grow gr)).trans ⟨Same.refl _, fun j h => (own_wipe h).2, fun _ z => z, fun _ z => z, fun _ _ z _ _ => z, fun _ _ z _ => z⟩, Same.refl _, upd_same, s1.hst.sub.free hD, .nil, el, rfl⟩
        · rintro i H2 hi ⟨r2, G2, acc, ds, m2, s2, k2, g2, _⟩
          exact g2.trans s2.hst.sub
        · rintro i x H2 H3 hi ⟨r2, G2, acc, ds, m2, s2, k2, g2, hD2, hG2, p2, el2, em⟩ y
          obtain ⟨G3, gr, d, ed, pd⟩ := y G2 g2 s2.hst.sub s2.hst.gnt
          have s3 := s2.grow gr
          have hD3 : H3 D0 = some (.lst acc) := gr.h _ _ hD2
          have hG3 : G3 D0 = none := gr.nofz D0 (wr_lst hD2) hG2
          have dr : l.drop i = d :: l.drop (i + 1) := by
            have hi' : i < l.length := hi
            rw [List.drop_eq_getElem_cons hi']
            congr 1
            have := List.getElem?_eq_getElem hi'
            rw [this] at ed
            exact Option.some.inj ed
          rw [dr] at el2
          unfold lcL at el2
          have nown : ∀ j, isOwn r2 j → D0 ≠ ad j := fun j h z => s.own_ne (k2.o j h) (by rw [← z]; exact nD)
          have ntab : ∀ p ∈ C.T, D0 ≠ p.1 := fun p hp z => by
            obtain ⟨ps, e1, _⟩ := s.hst.tabs p hp
            rw [← z, nD] at e1
            cases e1
          cases eg : g d r2 with
          | none => simp only [eg] at el2; cases el2
          | some r4 =>
            simp only [eg] at el2
            refine ⟨r2, ad, G3, d, s3, pd, r4, eg, fun σ4 G4 H4 w4 s4 k4 => ⟨w4.trans ?_, ?_⟩⟩
            · -- wiping twice
              apply List.ext_getElem?
              intro j
              by_cases hj : j ∈ vs
              · have hl : ∀ τ : L2.St, (L2.wipe τ vs)[j]? = if j < τ.length then some none else none := by
                  intro τ
                  have : ∀ (ws : List Nat), j ∈ ws → (L2.wipe τ ws)[j]? = if j < τ.length then some none else none := by
                    intro ws
                    induction ws with
                    | nil => intro h; cases h
                    | cons w ws ih =>
                      intro h
                      unfold L2.wipe
                      rw [List.getElem?_set]
                      by_cases hw : w = j
                      · rw [if_pos hw, wipe_length, hw]
                      · rw [if_neg hw]
                        rcases List.mem_cons.mp h with z | z
                        · exact absurd z.symm hw
                        · exact ih z
                  exact this vs hj
                rw [hl, hl, wipe_length]
              · rw [wipe_out hj]
            · have k34 : Kp C r r4 ad G H G4 H4 := (k2.trans (Kp.grow gr)).trans k4
              have hD4 : H4 D0 = some (.lst acc) := k4.keep D0 _ hD3 nown ntab
              have hG4 : G4 D0 = none := k4.nofz D0 (wr_lst hD3) hG3 nown
              have wlen : σ4.length = (L2.wipe σ vs).length := by rw [wipe_eq_len w4]
              have wout : ∀ j, j ∉ vs → (L2.wipe σ vs)[j]? = σ4[j]? := fun j n => (wipe_eq_out w4 n).symm
              refine ⟨r4, ad, G4, s4, ?_⟩
              unfold kT
              cases ec : mc r4 with
              | bad => simp only [ec] at el2; cases el2
              | exc x fs => simp only [ec] at el2; cases el2
              | ok bb r5 =>
                simp only [ec] at el2
                cases bb with
                | bl b =>
                  refine ⟨b, rfl, fun G5 H5 s5 k5 => ?_⟩
                  have nown4 : ∀ j, isOwn r4 j → D0 ≠ ad j := fun j h => nown j (k4.o j h)
                  have hD5 : H5 D0 = some (.lst acc) := k5.keep D0 _ hD4 nown4 ntab
                  have hG5 : G5 D0 = none := k5.nofz D0 (wr_lst hD4) hG4 nown4
                  have k45 := k34.trans k5
                  cases b with
                  | false =>
                    simp only at el2
                    refine iteF ⟨wipeR r5 vs, G5, acc, ds, m2, s5.wipe wlen.symm wout, k45.trans ⟨Same.refl _, fun j h => (own_wipe h).2, fun _ z => z, fun _ z => z, fun _ _ z _ _ => z, fun _ _ z _ => z⟩, (g2.trans gr.g).trans (k4.g.trans k5.g), hD5, hG5, p2.up (gr.g.trans (k4.g.trans k5.g)), el2, em⟩
                  | true =>
                    simp only at el2
                    refine iteT ⟨r5, ad, G5, s5, ?_⟩
                    unfold kE
                    cases ee : me r5 with
                    | bad => simp only [ee] at el2; cases el2
                    | exc x fs => simp only [ee] at el2; cases el2
                    | ok xv r6 =>
                      simp only [ee] at el2
                      intro v6 G6 H6 s6 k6 p6
                      have nown5 : ∀ j, isOwn r5 j → D0 ≠ ad j := fun j h => nown4 j (k5.o j h)
                      have hD6 : H6 D0 = some (.lst acc) := k6.keep D0 _ hD5 nown5 ntab
                      have hG6 : G6 D0 = none := k6.nofz D0 (wr_lst hD5) hG5 nown5
                      cases el3 : lcL g mc me vs (l.drop (i + 1)) (wipeR r6 vs) with
                      | bad => simp only [el3] at el2; cases el2
                      | exc x fs => simp only [el3] at el2; cases el2
                      | ok m3 r7 =>
                        simp only [el3] at el2
                        injection el2 with em2 er7
                        subst er7
                        subst em2
                        have p6' : RpL C.K G6 acc ds := p2.up (gr.g.trans (k4.g.trans (k5.g.trans k6.g)))
                        have lacc : acc.length < sizeLine := by
                          rw [p6'.length, sizeLine_eq]
                          have : m.length = ds.length + (xv :: m3).length := by rw [em, List.length_append]
                          simp only [List.length_cons] at this
                          omega
                        refine ⟨acc, hD6, lacc, wipeR r6 vs, G6, acc ++ [v6], ds ++ [xv], m3, ?_, ?_, (g2.trans gr.g).trans (k4.g.trans (k5.g.trans k6.g)), upd_same, hG6, p6'.append (.cons p6 .nil), el3, by rw [em, List.append_assoc]; rfl⟩
                        · have h0 : C.H0 D0 = none := new_H0 s nD
                          have z := s6.wipe (σ' := L2.wipe σ vs) (vs := vs) wlen.symm wout
                          have hst := z.hst.put (a := D0) (o := .lst (acc ++ [v6])) hG6 (.inl h0) (ne_of_some hD6) (fun ps y => by rw [hD6] at y; cases y) (fun c q y => by rw [hD6] at y; cases y)
                          have nw : ∀ j, isOwn (wipeR r6 vs) j → ad j ≠ D0 := fun j h y => nown5 j (k6.o j (own_wipe h).2) y.symm
                          refine ⟨hst, z.len, z.dat, fun j kk l' e' => ?_, fun j t l' e' => ?_, fun j cc l' e' => ?_, z.inj⟩
                          · obtain ⟨a1, a2, a3, ys, a4, a5⟩ := z.own j kk l' e'
                            exact ⟨a1, a2, a3, ys, by rw [upd_ne (nw j (.inl ⟨kk, l', e'⟩))]; exact a4, a5⟩
                          · obtain ⟨a1, a2, a3, a4⟩ := z.ownD j t l' e'
                            exact ⟨a1, a2, a3, a4.up (Same.refl _) (upd_ne (nw j (.inr (.inl ⟨t, l', e'⟩))))⟩
                          · obtain ⟨a1, a2, a3, a4⟩ := z.ownI j cc l' e'
                            refine ⟨a1, a2, a3, a4.up (Same.refl _) (fun b u q y => ?_) fun _ _ q => q⟩
                            rw [upd_ne]
                            · exact q
                            · rcases y with y | y
                              · rw [y]; exact nw j (.inr (.inr ⟨cc, l', e'⟩))
                              · intro y'; rw [y', hD6, y] at q; cases q
                        · have k66 := k45.trans k6
                          refine ⟨k66.g, fun j h => k66.o j (own_wipe h).2, fun b z => ?_, fun b z => ?_, fun b u z n t => ?_, k66.nofz⟩
                          · by_cases hb : b = D0
                            · rw [hb, upd_same]; simp
                            · rw [upd_ne hb]; exact k66.dom b z
                          · by_cases hb : b = D0
                            · rw [hb, upd_same]; trivial
                            · rw [upd_ne hb]; exact k66.domN b z
                          · rw [upd_ne (ne_of_none z nD)]
                            exact k66.keep b u z n t
                | _ => simp only at el2; cases el2
        · rintro H2 ⟨r2, G2, acc, ds, m2, s2, k2, g2, hD2, hG2, p2, el2, em⟩
          rw [List.drop_length] at el2
          unfold lcL at el2
          injection el2 with e1 e2
          subst e1
          subst e2
          rw [List.append_nil] at em
          subst em
          -- the outer slots again: r2's slots in vs are un or dropped
          have s3 : Stt C r2 ad σ G2 H2 := by
            refine ⟨s2.hst, ?_, fun j d e' => ?_, fun j kk l' e' => ?_, fun j t l' e' => ?_, fun j cc l' e' => ?_, s2.inj⟩
            · rw [← s2.len, wipe_length]
            · obtain ⟨v, h1, h2⟩ := s2.dat j d e'
              exact ⟨v, (wipe_some h1).1, h2⟩
            · obtain ⟨h1, h2⟩ := s2.own j kk l' e'
              exact ⟨(wipe_some h1).1, h2⟩
            · obtain ⟨h1, h2⟩ := s2.ownD j t l' e'
              exact ⟨(wipe_some h1).1, h2⟩
            · obtain ⟨h1, h2⟩ := s2.ownI j cc l' e'
              exact ⟨(wipe_some h1).1, h2⟩
          exact k D0 acc G2 H2 s3 k2 nD hG2 hD2 p2
      · exact k.elim
theorem o_lc {elt tg iter : Expr} {ifs : List Expr} {scope : Scope} {own : List (Str × Nat)} {it : MA} {g : GD} {mc me : ME} (hN : X.N.Nodup) (hi : PI X tg iter (tI C E it)) (ok : BlkOk X.N X.env.scope scope own)
    (hg : ∀ (s : Shared) (H : Hp) (A : Addr) (cl : List (Str × Addr)) (fp : List Addr), GOk (own.map (·.2)) (X.blk s H scope (compEnvC scope cl A X.env) fp) C tg g)
    (ht : ∀ (s : Shared) (H : Hp) (A : Addr) (cl : List (Str × Addr)) (fp : List Addr), PTs (X.blk s H scope (compEnvC scope cl A X.env) fp) ifs (tT C E0 mc))
    (he : ∀ (s : Shared) (H : Hp) (A : Addr) (cl : List (Str × Addr)) (fp : List Addr), PE (X.blk s H scope (compEnvC scope cl A X.env) fp) elt (tE C E0 me))
    (hc : X.calm = true := by rfl) (hs : ∀ x, foldedSetIterable iter X.env x = pure x := by intro _; rfl) :
    PE X (.ListComp elt [⟨tg, iter, ifs, 0⟩] scope pos) (tO C E (mLc it g mc me (own.map (·.2)))) :=
  PE.imp (pe_lc hc hN hi ok (fun s H A cl fp => (hg s H A cl fp).run) ht he hs) fun σ H Q h => lc_imp σ H Q h
/-- x = [.. for ..], x a plain local: bound before the comprehension's own names come back -/
theorem s_lcO {i : Nat} {y : Str} {py spos : Pos} {elt tg iter : Expr} {ifs : List Expr} {scope : Scope} {own : List (Str × Nat)} {it : MA} {g : GD} {mc me : ME} (hN : X.N.Nodup) (hi : PI X tg iter (tI C E it)) (ok : BlkOk X.N X.env.scope scope own)
    (hg : ∀ (s : Shared) (H : Hp) (A : Addr) (cl : List (Str × Addr)) (fp : List Addr), GOk (own.map (·.2)) (X.blk s H scope (compEnvC scope cl A X.env) fp) C tg g)
    (ht : ∀ (s : Shared) (H : Hp) (A : Addr) (cl : List (Str × Addr)) (fp : List Addr), PTs (X.blk s H scope (compEnvC scope cl A X.env) fp) ifs (tT C E0 mc))
    (he : ∀ (s : Shared) (H : Hp) (A : Addr) (cl : List (Str × Addr)) (fp : List Addr), PE (X.blk s H scope (compEnvC scope cl A X.env) fp) elt (tE C E0 me))
    (hc : X.calm = true := by rfl) (hs : ∀ x, foldedSetIterable iter X.env x = pure x := by intro _; rfl)
    (hyi : X.N[i]? = some y := by rfl) (hyl : X.env.scope.names.lookup y = some .local := by rfl) (hl : (py.line == pos.line) = true := by rfl) (hnm : (scope.names.any fun (n, k) => n == y && (k == .local || k == .cell)) = false := by rfl) (hk : X.env.scope.kind = .function := by rfl) :
    PS X (.Assign [.Name y py] (.ListComp elt [⟨tg, iter, ifs, 0⟩] scope pos) spos) (tS C E (sAsgO i (mLc it g mc me (own.map (·.2))))) := by
  refine PS.imp (ps_setLc hc hN hyi hyl (sw_true hk hyl hl hnm) hi ok (fun s H A cl fp => (hg s H A cl fp).run) ht he hs) fun Dn σ H ⟨r, ad, G, s, k⟩ => lc_imp σ H _ ⟨r, ad, G, s, ?_⟩
  unfold sAsgO at k
  unfold kO
  cases e : mLc it g mc me (own.map (·.2)) r with
  | bad => rw [e] at k; exact k
  | exc c fs => rw [e] at k; exact k
  | ok l r1 =>
    rw [e] at k
    intro p xs G1 H1 s1 k1 n g h1 p1
    exact k _ _ G1 H1 (s1.setN (new_own s k1 n) g (new_H0 s n) (.inl ⟨l, xs, rfl, h1, p1⟩)) k1.g
theorem s_lcF {i : Nat} {y : Str} {py spos : Pos} {elt tg iter : Expr} {ifs : List Expr} {scope : Scope} {own : List (Str × Nat)} {it : MA} {g : GD} {mc me : ME} (hN : X.N.Nodup) (hi : PI X tg iter (tI C E it)) (ok : BlkOk X.N X.env.scope scope own)
    (hg : ∀ (s : Shared) (H : Hp) (A : Addr) (cl : List (Str × Addr)) (fp : List Addr), GOk (own.map (·.2)) (X.blk s H scope (compEnvC scope cl A X.env) fp) C tg g)
    (ht : ∀ (s : Shared) (H : Hp) (A : Addr) (cl : List (Str × Addr)) (fp : List Addr), PTs (X.blk s H scope (compEnvC scope cl A X.env) fp) ifs (tT C E0 mc))
    (he : ∀ (s : Shared) (H : Hp) (A : Addr) (cl : List (Str × Addr)) (fp : List Addr), PE (X.blk s H scope (compEnvC scope cl A X.env) fp) elt (tE C E0 me))
    (hc : X.calm = true := by rfl) (hs : ∀ x, foldedSetIterable iter X.env x = pure x := by intro _; rfl)
    (hyi : X.N[i]? = some y := by rfl) (hyl : X.env.scope.names.lookup y = some .local := by rfl) (hl : (py.line == pos.line) = true := by rfl) (hnm : (scope.names.any fun (n, k) => n == y && (k == .local || k == .cell)) = false := by rfl) (hk : X.env.scope.kind = .function := by rfl) :
    PS X (.Assign [.Name y py] (.ListComp elt [⟨tg, iter, ifs, 0⟩] scope pos) spos) (tS C E (sAsg i (mFrz (mLc it g mc me (own.map (·.2)))))) := by
  refine PS.imp (ps_setLc hc hN hyi hyl (sw_true hk hyl hl hnm) hi ok (fun s H A cl fp => (hg s H A cl fp).run) ht he hs) fun Dn σ H ⟨r, ad, G, s, k⟩ => lc_imp σ H _ ⟨r, ad, G, s, ?_⟩
  unfold sAsg mFrz at k
  unfold kO
  cases e : mLc it g mc me (own.map (·.2)) r with
  | bad => rw [e] at k; exact k
  | exc c fs => rw [e] at k; exact k
  | ok l r1 =>
    rw [e] at k
    intro p xs G1 H1 s1 k1 n g h1 p1
    have st := s1.still g (new_H0 s n) h1 (fun _ z => nomatch z) (new_own s k1 n)
    exact k ad _ _ H1 (st.setD (.lst upd_same (p1.up (same_upd g)))) (k1.still n g).g
end
end DL

/-! Stores, calls, defs. -/
namespace DL
open PySem PySem.Spec PyProof.Rows L2

theorem kp_put {C : Fc} {r : DEnv} {ad : Nat → Addr} {G H : Hp} {i : Nat} {k : Bool} {l l' : List D} {o : HO} (e : r[i]? = some (.own k l)) (hn : H (ad i) ≠ none) (ho : wr (some o)) : Kp C r (r.set i (.own k l')) ad G H G (upd H (ad i) o) := by
  refine ⟨Same.refl _, fun j h => ?_, fun b z => ?_, fun b z => ?_, fun b u z n _ => ?_, fun b z y n => y⟩
  · rcases own_set h with z | z
    · rw [z]; exact .inl ⟨k, l, e⟩
    · exact z
  · by_cases hb : b = ad i
    · rw [hb, upd_same]; simp
    · rw [upd_ne hb]; exact z
  · by_cases hb : b = ad i
    · rw [hb, upd_same]; exact ho
    · rw [upd_ne hb]; exact z
  · rw [upd_ne (n i (.inl ⟨k, l, e⟩))]; exact z
section
variable {X : Cx} {C : Fc} {E : XK} {pos : Pos}
/-! ### x.append(e) -/
def sApp (i : Nat) (m : ME) : MS := fun r => match r[i]? with
  | some (.own _ _) => (match m r with
    | .ok d r1 => (match r1[i]? with
      | some (.own k l) => if l.length < 16777216 then .nx (r1.set i (.own k (l ++ [d]))) else .bad
      | _ => .bad)
    | .exc c fs => .exc c fs
    | .bad => .bad)
  | _ => .bad
theorem s_app {i : Nat} {x : Str} {e : Expr} {m : ME} {p apos cpos : Pos} (he : PE X e (tE C E m)) (hK : C.K = X.K := by rfl) (hN : X.N[i]? = some x := by rfl) (hv : Vis X.env.scope x := by first | exact Or.inl rfl | exact Or.inr (Or.inl rfl) | exact Or.inr (Or.inr rfl))
    (hd : (x == ("__debug__" : Str)) = false := by decide) (hcd : (x == ("__classdict__" : Str)) = false := by decide)
    (hsw : swapsWith (.Call (.Attribute (.Name x p) "append" apos) [e] [] cpos) none pos.line X.env = pure false := by rfl)
    (hbase : attributeBase (.Name x p) "append" X.env (eval (.Name x p) X.env) = eval (.Name x p) X.env := by rfl)
    (hfew : ((backTo cpos (starEach [e] X.env)).all (fun x => !x.1) && (backToKw cpos (keywordEach [] X.env)).all (fun x => x.1.isSome)
      && decide ([e].length + ([] : List Keyword).length + (if ([] : List Keyword).isEmpty then 0 else 1) < 30)) = true := by rfl)
    (hline : (apos.endLine == cpos.line) = true := by rfl) (hs : starEach [e] X.env = (false, eval e X.env) :: starEach [] X.env := by rfl) (hplain : (backTo cpos (starEach [] X.env)).any (·.1) = false := by rfl) :
    PS X (.Expr (.Call (.Attribute (.Name x p) "append" apos) [e] [] cpos) pos) (tS C E (sApp i m)) := by
  refine PS.imp (ps_expr (pe_bm PySem.F.plainAttrs_list PySem.F.slot_list_append PySem.F.type_list_append mt_append (pe_var hN hv hd hcd) (pa_cons he pa_nil hs) hbase hfew hline hs hplain) hsw) fun Dn σ H ⟨r, ad, G, s, k⟩ => ?_
  unfold sApp at k
  split at k
  · rename_i k0 l0 e0
    obtain ⟨h1, _, _, xs0, h4, _⟩ := s.own i k0 l0 e0
    refine ⟨_, h1, .inl ⟨rfl, xs0, SqL.of h4⟩, r, ad, G, s, ?_⟩
    unfold kE
    cases em : m r with
    | bad => simp only [em] at k; exact k.elim
    | exc c fs => simp only [em] at k; exact k
    | ok d r1 =>
      simp only [em] at k
      intro v G1 H1 s1 k1 p1
      split at k
      · rename_i kk l el
        split at k
        · rename_i hl
          obtain ⟨z1, z2, z3, xs, z4, z5⟩ := s1.own i kk l el
          refine ⟨_, xs, v, rfl, rfl, z4, by rw [z5.length, sizeLine_eq]; exact hl, ?_⟩
          exact k ad σ G1 _ (s1.putO el (z5.append (.cons p1 .nil))) k1.g
        · exact k.elim
      · exact k.elim
  · exact k.elim
/-! ### x[j] = e -/
def sSetI (i : Nat) (mi m : ME) : MS := fun r => match m r with
  | .ok d r1 => (match r1[i]? with
    | some (.own _ _) => (match mi r1 with
      | .ok (.int j) r2 => (match r2[i]? with
        | some (.own k l) => (match ixN l.length j with
          | some n => .nx (r2.set i (.own k (l.set n d)))
          | none => .bad)
        | _ => .bad)
      | .exc c fs => .exc c fs
      | _ => .bad)
    | _ => .bad)
  | .exc c fs => .exc c fs
  | .bad => .bad
theorem s_setI {i : Nat} {x : Str} {ei e : Expr} {mi m : ME} {p p2 : Pos} (he : PE X e (tE C E m)) (hi : PE X ei (tE C E mi)) (hN : X.N[i]? = some x := by rfl) (hv : Vis X.env.scope x := by first | exact Or.inl rfl | exact Or.inr (Or.inl rfl) | exact Or.inr (Or.inr rfl))
    (hd : (x == ("__debug__" : Str)) = false := by decide) (hcd : (x == ("__classdict__" : Str)) = false := by decide)
    (ha : ∀ v, assign (.Subscript (.Name x p) ei p2) X.env v = (do
      let ov ← holding [v] (eval (.Name x p) X.env)
      let iv ← holding [v, ov] (eval ei X.env)
      standAt p2
      holding [v, ov, iv] (setItem ov iv v)
      release [v, ov, iv] []) := by intro _; rfl)
    (hs : swapsWithSole [.Subscript (.Name x p) ei p2] e pos.line X.env = pure false := by rfl) (hw : swappedStores [.Subscript (.Name x p) ei p2] e X.env = pure none := by rfl)
    (h1 : (assignEach [.Subscript (.Name x p) ei p2] X.env).map (·.2) = [assign (.Subscript (.Name x p) ei p2) X.env] := by rfl) :
    PS X (.Assign [.Subscript (.Name x p) ei p2] e pos) (tS C E (sSetI i mi m)) := by
  refine PS.imp (ps_asg he (pg_sub (pe_var hN hv hd hcd) hi set_list ha) hs hw h1) fun Dn σ H ⟨r, ad, G, s, k⟩ => ⟨r, ad, G, s, ?_⟩
  unfold sSetI at k
  unfold kE
  cases em : m r with
  | bad => simp only [em] at k; exact k.elim
  | exc c fs => simp only [em] at k; exact k
  | ok d r1 =>
    simp only [em] at k
    intro v G1 H1 s1 k1 p1
    split at k
    · rename_i k0 l0 e0
      obtain ⟨z1, _⟩ := s1.own i k0 l0 e0
      refine ⟨_, z1, r1, ad, G1, s1, ?_⟩
      unfold kE
      cases ei : mi r1 with
      | bad => simp only [ei] at k; exact k.elim
      | exc c fs => simp only [ei] at k; exact k
      | ok dj r2 =>
        simp only [ei] at k
        cases dj with
        | int j =>
          intro vj G2 H2 s2 k2 p2
          simp only at k
          split at k
          · rename_i kk l el
            split at k
            · rename_i n en
              obtain ⟨y1, y2, y3, xs, y4, y5⟩ := s2.own i kk l el
              exact ⟨_, xs, j, n, rfl, rp_int p2, y4, by rw [y5.length]; exact en, k ad σ G2 _ (s2.putO el (RpL.set (p1.up k2.g) n y5)) (k1.g.trans k2.g)⟩
            · exact k.elim
          · exact k.elim
        | _ => exact k.elim
    · exact k.elim
/-! ### x[j] of a list held alone -/
def mIxO (i : Nat) (mi : ME) : ME := fun r => match r[i]? with
  | some (.own _ _) => (match mi r with
    | .ok (.int j) r1 => (match r1[i]? with
      | some (.own _ l) => optE (atI l j) r1
      | _ => .bad)
    | .exc c fs => .exc c fs
    | _ => .bad)
  | _ => .bad
theorem e_ixO {i : Nat} {x : Str} {ei : Expr} {mi : ME} {p : Pos} (hi : PE X ei (tE C E mi)) (hK : C.K = X.K := by rfl) (hs : PlainIx ei := by exact fun _ _ => rfl) (hN : X.N[i]? = some x := by rfl) (hv : Vis X.env.scope x := by first | exact Or.inl rfl | exact Or.inr (Or.inl rfl) | exact Or.inr (Or.inr rfl))
    (hd : (x == ("__debug__" : Str)) = false := by decide) (hcd : (x == ("__classdict__" : Str)) = false := by decide) : PE X (.Subscript (.Name x p) ei pos) (tE C E (mIxO i mi)) := by
  refine PE.imp (pe_ix ix_list (pe_var hN hv hd hcd) hi hs) fun σ H Q ⟨r, ad, G, s, k⟩ => ?_
  unfold mIxO at k
  split at k
  · rename_i k0 l0 e0
    obtain ⟨h1, _⟩ := s.own i k0 l0 e0
    refine ⟨_, h1, r, ad, G, s, ?_⟩
    unfold kE at k ⊢
    cases em : mi r with
    | bad => simp only [em] at k
    | exc c fs => simp only [em] at k; exact k
    | ok d r1 =>
      simp only [em] at k
      cases d with
      | int j =>
        simp only at k
        intro v G1 H1 s1 k1 p1
        split at k
        · rename_i _ _ heq
          split at heq
          · rename_i kk l el
            unfold optE at heq
            split at heq
            · rename_i d' ed
              injection heq with q1 q2
              subst q1
              subst q2
              obtain ⟨z1, z2, z3, xs, z4, z5⟩ := s1.own i kk l el
              obtain ⟨w, w1, w2⟩ := atI_rp z5 ed
              exact ⟨_, xs, j, w, rfl, rp_int p1, SqL.of z4, w1, k w G1 H1 s1 k1 w2⟩
            · cases heq
          · cases heq
        · rename_i heq
          split at heq
          · unfold optE at heq
            split at heq <;> cases heq
          · cases heq
        · exact k.elim
      | _ => exact k.elim
  · exact k.elim

/-! ### defs -/
inductive FR where
  | ok (d : D)
  | own (l : List D)
  | exc (c : Str) (fs : List (Str × D))
  | bad
def spF (K : PySem.W.Frag) (cls : Str → Addr) (F : List D → FR) : Sp := fun vs H Q E => ∃ G ds, Same G H ∧ (∀ b ps, G b ≠ some (.tbl ps)) ∧ RpL K G vs ds ∧
  match F ds with
  | .ok d => ∀ v G' H', Grow G H G' H' → Rp K G' v d → Q v H'
  | .own l => ∀ p xs G' H', Grow G H G' H' → H p = none → G' p = none → H' p = some (.lst xs) → RpL K G' xs l → Q (.ref p) H'
  | .exc c fs => ∀ dd fv G' H', Grow G H G' H' → H' dd = some (.xd fv) → RpF K G' fv fs → E (.ref (cls c)) (some dd) H'
  | .bad => False
def runF (M : MS) (n k : Nat) (ds : List D) : FR := if ds.length = n then (match M (ds.map .dat ++ List.replicate k .un) with
  | .rt d _ => .ok d
  | .nx _ => .ok .non
  | .rtO l _ => .own l
  | .exc c fs => .exc c fs
  | _ => .bad) else .bad
abbrev fc0 (K : PySem.W.Frag) (cls : Str → Addr) (G H : Hp) : Fc := ⟨K, cls, G, H, [], []⟩
theorem Hst.grow0 {K : PySem.W.Frag} {cls : Str → Addr} {G H G' H' : Hp} (s : Hst (fc0 K cls G H) G' H') : Grow G H G' H' :=
  ⟨s.g0, fun b o e => s.keep b o e (by simp) (fun p hp => by cases hp), s.sub, s.gnt, s.nofz⟩
theorem start_get {N : List Str} {vs : List V} {i : Nat} {v : V} (h : vs[i]? = some v) : (L2.start N vs)[i]? = some (some v) := by
  unfold L2.start
  rw [List.getElem?_append_left (by simpa using lt_of_get h), List.getElem?_map, h]
  rfl
theorem stt_start {C : Fc} {N : List Str} {G H : Hp} {vs : List V} {ds : List D} (hs : Hst C G H) (p : RpL C.K G vs ds) (hn : ds.length ≤ N.length) : Stt C (ds.map .dat ++ List.replicate (N.length - ds.length) .un) (fun _ => 0) (L2.start N vs) G H := by
  have at_ : ∀ (i : Nat) (x : Sl), (ds.map Sl.dat ++ List.replicate (N.length - ds.length) Sl.un)[i]? = some x → (∃ d, x = .dat d ∧ ds[i]? = some d) ∨ x = .un := by
    intro i x h
    by_cases hi : i < ds.length
    · rw [List.getElem?_append_left (by simpa using hi), List.getElem?_map] at h
      cases e : ds[i]? with
      | none => rw [e] at h; cases h
      | some d => rw [e] at h; cases h; exact .inl ⟨d, rfl, rfl⟩
    · rw [List.getElem?_append_right (by simpa using hi), List.getElem?_replicate] at h
      split at h
      · cases h; exact .inr rfl
      · cases h
  have no : ∀ i, ¬ isOwn (ds.map Sl.dat ++ List.replicate (N.length - ds.length) Sl.un) i := by
    intro i h
    rcases h with ⟨k, l, h⟩ | ⟨t, l, h⟩ | ⟨c, l, h⟩ <;> rcases at_ i _ h with ⟨d, e, _⟩ | e <;> cases e
  refine ⟨hs, ?_, fun i d h => ?_, fun i k l h => absurd (.inl ⟨k, l, h⟩) (no i), fun i t l h => absurd (.inr (.inl ⟨t, l, h⟩)) (no i), fun i c l h => absurd (.inr (.inr ⟨c, l, h⟩)) (no i), fun i j h => absurd h (no i)⟩
  · unfold L2.start
    have := p.length
    simp only [List.length_append, List.length_map, List.length_replicate]
    omega
  · rcases at_ i _ h with ⟨d', e, h'⟩ | e
    · cases e
      obtain ⟨v, e1, e2⟩ := p.get h'
      exact ⟨v, start_get e1, e2⟩
    · cases e
section
variable {P : Program} {w : World} {K : PySem.W.Frag} {mg : Str → Option Value} {base : Heap} {cls : Str → Addr}
theorem fnF {x qual : Str} {st : Stmt} {f : Addr} {fd : FuncData} {N ps : List Str} {k : Nat} {M : MS} (F : Fun K x qual st f fd) (S : FnScope N ps (defScope st))
    (hbody : ∀ (cdv : Value) (A : Around) (outer : List Env) (s : Shared) (H G : Hp) (E : XK), Room k (A.deeper (envOfC qual (defScope st) s.heap.objs.size f cdv)) →
      PSs (cxOf (L2.CX P w) P w K mg base N qual (defScope st) f cdv A outer s H E) (defBody st) (tS (fc0 K cls G H) E M)) :
    FnOk P w K mg base (L2.CX P w) (k + 1) f fd ps (spF K cls (runF M ps.length (N.length - ps.length))) := by
  have hpl : ps.length ≤ N.length := by have := congrArg List.length S.pre; rw [List.length_take] at this; omega
  refine F.okX S (fun vs H Q E h => ?_) (fun cdv A outer s H vs Q E hr h => ?_)
  · obtain ⟨G, ds, _, _, p, h⟩ := h
    rw [p.length]
    unfold runF at h
    by_cases e : ds.length = ps.length
    · exact e
    · rw [if_neg e] at h; exact h.elim
  · obtain ⟨G, ds, sub, gnt, p, h⟩ := h
    refine ⟨_, hbody cdv A outer s H G E hr, ?_⟩
    have hl : ds.length = ps.length := by
      unfold runF at h
      by_cases e : ds.length = ps.length
      · exact e
      · rw [if_neg e] at h; exact h.elim
    have hst : Hst (fc0 K cls G H) G H := ⟨sub, gnt, Same.refl _, fun _ z => z, fun _ z => z, fun _ _ z _ _ => z, fun _ _ z => z, fun p hp => by cases hp⟩
    have st := stt_start (C := fc0 K cls G H) (N := N) hst p (by rw [hl]; exact hpl)
    refine ⟨_, _, G, st, ?_⟩
    unfold runF at h
    rw [if_pos hl] at h
    rw [hl]
    generalize M (ds.map Sl.dat ++ List.replicate (N.length - ps.length) Sl.un) = z at h
    cases z with
    | nx r => exact fun ad' σ' G' H' s' _ => h .non G' H' s'.hst.grow0 .non
    | rt d r => exact fun v ad' σ' G' H' s' pv => h v G' H' s'.hst.grow0 pv
    | rtO l r => exact fun p xs ad' σ' G' H' s' np h0 g' h' pv => h p xs G' H' s'.hst.grow0 h0 g' h' pv
    | exc c fs => exact fun dd fv G' H' s' hd pf => h dd fv G' H' s'.grow0 hd pf
    | bk r => exact h.elim
    | ct r => exact h.elim
    | bad => exact h.elim
end
/-- what a call comes to -/
def mCall (F : List D → FR) (a : MA) : ME := fun r => match a r with
  | .ok ds r1 => (match F ds with
    | .ok d => .ok d r1
    | .own l => .ok (.lst l) r1
    | .exc c fs => .exc c fs
    | .bad => .bad)
  | .exc c fs => .exc c fs
  | .bad => .bad
theorem tE_call {F : List D → FR} {a : MA} : ∀ σ H Q, tE C E (mCall F a) σ H Q → tA C E a σ H (fun vs H1 => spF C.K C.cls F vs H1 Q E) := by
  intro σ H Q ⟨r, ad, G, s, k⟩
  refine ⟨r, ad, G, s, ?_⟩
  unfold mCall at k
  unfold kA
  cases ea : a r with
  | bad => rw [ea] at k; exact k
  | exc c fs => rw [ea] at k; exact k
  | ok ds r1 =>
    rw [ea] at k
    simp only at k
    intro vs G1 H1 s1 k1 p1
    refine ⟨G1, ds, s1.hst.sub, s1.hst.gnt, p1, ?_⟩
    cases eF : F ds with
    | bad => rw [eF] at k; exact k
    | exc c fs =>
      rw [eF] at k
      exact fun dd fv G2 H2 gr hd pf => k dd fv G2 H2 (s1.hst.grow gr) hd pf
    | ok d =>
      rw [eF] at k
      exact fun v G2 H2 gr pv => k v G2 H2 (s1.grow gr) (k1.trans (Kp.grow gr)) pv
    | own l =>
      rw [eF] at k
      intro p xs G2 H2 gr n g h pv
      have s2 := s1.grow gr
      have np : ∀ j, isOwn r1 j → ad j ≠ p := fun j hj z => s1.own_ne hj (by rw [z]; exact n)
      have s3 := s2.still g (new_H0 s1 n) h (fun _ z => nomatch z) np
      refine k (.ref p) _ H2 s3 (k1.trans ((Kp.grow gr).still n g)) (.lst upd_same (pv.up (same_upd g)))
def mCallO (F : List D → FR) (a : MA) : MA := fun r => match a r with
  | .ok ds r1 => (match F ds with
    | .own l => .ok l r1
    | .exc c fs => .exc c fs
    | _ => .bad)
  | .exc c fs => .exc c fs
  | .bad => .bad
theorem tO_call {F : List D → FR} {a : MA} : ∀ σ H Q, tO C E (mCallO F a) σ H Q → tA C E a σ H (fun vs H1 => spF C.K C.cls F vs H1 Q E) := by
  intro σ H Q ⟨r, ad, G, s, k⟩
  refine ⟨r, ad, G, s, ?_⟩
  unfold mCallO at k
  unfold kA
  unfold kO at k
  cases ea : a r with
  | bad => simp only [ea] at k
  | exc c fs => simp only [ea] at k; exact k
  | ok ds r1 =>
    simp only [ea] at k
    intro vs G1 H1 s1 k1 p1
    refine ⟨G1, ds, s1.hst.sub, s1.hst.gnt, p1, ?_⟩
    cases eF : F ds with
    | bad => simp only [eF] at k
    | exc c fs =>
      simp only [eF] at k
      exact fun dd fv G2 H2 gr hd pf => k dd fv G2 H2 (s1.hst.grow gr) hd pf
    | ok d => simp only [eF] at k
    | own l =>
      simp only [eF] at k
      intro p xs G2 H2 gr n g h pv
      have n0 : H p = none := by
        cases q : H p with
        | none => rfl
        | some o => exact absurd n (k1.dom p (by rw [q]; simp))
      exact k p xs G2 H2 (s1.grow gr) (k1.trans (Kp.grow gr)) n0 g h pv
variable {x : Str} {p : Pos} {e : Expr} {es : List Expr} {CX : CXT} {k : Nat} {f : Addr} {fd : FuncData} {ps : List Str} {F : List D → FR} {a : MA}
theorem e_call (Fn : FnOk X.prog X.w X.K X.mg X.base CX k f fd ps (spF C.K C.cls F)) (hr : Room k X.A) (hm : X.mg x = some (.ref f)) (hk : PySem.W.keepIn X.K (.ref f) = true) (hb : Binds X.K fd ps []) (hx : Passes CX X E)
    (ha : PA X (e :: es) (tA C E a)) (hg : Gl X x := by rfl) (hdb : (x == ("__debug__" : Str)) = false := by decide) (he : starEach (e :: es) X.env = (false, eval e X.env) :: starEach es X.env := by rfl) (hpl : (backTo pos (starEach es X.env)).any (·.1) = false := by rfl) :
    PE X (.Call (.Name x p) (e :: es) [] pos) (tE C E (mCall F a)) := by
  refine PE.imp (pe_call (dvs := []) Fn hr hg hm hk hb .nil hx ha hdb he hpl) fun σ H Q h => ?_
  have q := tE_call σ H Q h
  simpa only [tCall, List.append_nil] using q
theorem o_call (Fn : FnOk X.prog X.w X.K X.mg X.base CX k f fd ps (spF C.K C.cls F)) (hr : Room k X.A) (hm : X.mg x = some (.ref f)) (hk : PySem.W.keepIn X.K (.ref f) = true) (hb : Binds X.K fd ps []) (hx : Passes CX X E)
    (ha : PA X (e :: es) (tA C E a)) (hg : Gl X x := by rfl) (hdb : (x == ("__debug__" : Str)) = false := by decide) (he : starEach (e :: es) X.env = (false, eval e X.env) :: starEach es X.env := by rfl) (hpl : (backTo pos (starEach es X.env)).any (·.1) = false := by rfl) :
    PE X (.Call (.Name x p) (e :: es) [] pos) (tO C E (mCallO F a)) := by
  refine PE.imp (pe_call (dvs := []) Fn hr hg hm hk hb .nil hx ha hdb he hpl) fun σ H Q h => ?_
  have q := tO_call σ H Q h
  simpa only [tCall, List.append_nil] using q
end
end DL

/-! Defs that write to the list in their first place (a pool of draws). -/
namespace DL
open PySem PySem.Spec PyProof.Rows L2

inductive QR where
  | ok (d : D) (l : List D)
  | own (m : List D) (l : List D)
  | bad
/-- all but the list at a stays -/
structure GrowX (a : Addr) (G H G' H' : Hp) : Prop where
  g : Same G G'
  h : ∀ b o, H b = some o → b ≠ a → H' b = some o
  sub : Same G' H'
  gnt : ∀ b ps, G' b ≠ some (.tbl ps)
  nofz : ∀ b, wr (H b) → G b = none → G' b = none
def spQ (K : PySem.W.Frag) (F : List D → List D → QR) : Sp := fun vs H Q E => ∃ G a xs l us ds, vs = .ref a :: us ∧ Same G H ∧ (∀ b ps, G b ≠ some (.tbl ps)) ∧ G a = none ∧ H a = some (.lst xs) ∧ RpL K G xs l ∧ RpL K G us ds ∧
  match F l ds with
  | .ok d l' => ∀ v ys G' H', GrowX a G H G' H' → H' a = some (.lst ys) → RpL K G' ys l' → Rp K G' v d → Q v H'
  | .own m l' => ∀ p zs ys G' H', GrowX a G H G' H' → H' a = some (.lst ys) → RpL K G' ys l' → H p = none → G' p = none → H' p = some (.lst zs) → RpL K G' zs m → Q (.ref p) H'
  | .bad => False
def runQ (M : MS) (n k : Nat) (l ds : List D) : QR := if ds.length + 1 = n then (match M (.own true l :: ds.map .dat ++ List.replicate k .un) with
  | .rt d (.own true l' :: _) => .ok d l'
  | .nx (.own true l' :: _) => .ok .non l'
  | .rtO m (.own true l' :: _) => .own m l'
  | _ => .bad) else .bad
abbrev fcQ (K : PySem.W.Frag) (cls : Str → Addr) (G H : Hp) (a : Addr) : Fc := ⟨K, cls, G, H, [a], []⟩
theorem Hst.growX {K : PySem.W.Frag} {cls : Str → Addr} {G H G' H' : Hp} {a : Addr} (s : Hst (fcQ K cls G H a) G' H') : GrowX a G H G' H' :=
  ⟨s.g0, fun b o e n => s.keep b o e (by simpa using n) (fun p hp => by cases hp), s.sub, s.gnt, s.nofz⟩
theorem stt_startQ {C : Fc} {N : List Str} {G H : Hp} {a : Addr} {xs us : List V} {l ds : List D} (hs : Hst C G H) (ga : G a = none) (ha : H a = some (.lst xs)) (io : a ∈ C.io) (pl : RpL C.K G xs l) (p : RpL C.K G us ds) (hn : ds.length + 1 ≤ N.length) :
    Stt C (.own true l :: ds.map .dat ++ List.replicate (N.length - (ds.length + 1)) .un) (fun _ => a) (L2.start N (.ref a :: us)) G H := by
  have at_ : ∀ (i : Nat) (x : Sl), (Sl.own true l :: ds.map Sl.dat ++ List.replicate (N.length - (ds.length + 1)) Sl.un)[i]? = some x → (i = 0 ∧ x = .own true l) ∨ (∃ j d, i = j + 1 ∧ x = .dat d ∧ ds[j]? = some d) ∨ x = .un := by
    intro i x h
    cases i with
    | zero => simp at h; exact .inl ⟨rfl, h.symm⟩
    | succ i =>
      rw [List.cons_append, List.getElem?_cons_succ] at h
      by_cases hi : i < ds.length
      · rw [List.getElem?_append_left (by simpa using hi), List.getElem?_map] at h
        cases e : ds[i]? with
        | none => rw [e] at h; cases h
        | some d => rw [e] at h; cases h; exact .inr (.inl ⟨i, d, rfl, rfl, e⟩)
      · rw [List.getElem?_append_right (by simpa using hi), List.getElem?_replicate] at h
        split at h
        · cases h; exact .inr (.inr rfl)
        · cases h
  have one : ∀ i, isOwn (Sl.own true l :: ds.map Sl.dat ++ List.replicate (N.length - (ds.length + 1)) Sl.un) i → i = 0 := by
    intro i h
    rcases h with ⟨k, m, h⟩ | ⟨t, m, h⟩ | ⟨c, m, h⟩ <;> rcases at_ i _ h with ⟨e, _⟩ | ⟨j, d, _, e, _⟩ | e <;> first | exact e | cases e
  refine ⟨hs, ?_, fun i d h => ?_, fun i k m h => ?_, fun i t m h => ?_, fun i c m h => ?_, fun i j h1 h2 _ => (one i h1).trans (one j h2).symm⟩
  · unfold L2.start
    have := p.length
    simp only [List.length_append, List.length_map, List.length_replicate, List.length_cons]
    omega
  · rcases at_ i _ h with ⟨_, e⟩ | ⟨j, d', rfl, e, h'⟩ | e
    · cases e
    · cases e
      obtain ⟨v, e1, e2⟩ := p.get h'
      exact ⟨v, start_get (by simpa using e1), e2⟩
    · cases e
  · rcases at_ i _ h with ⟨rfl, e⟩ | ⟨j, d', rfl, e, h'⟩ | e
    · cases e
      exact ⟨start_get rfl, io, ga, xs, ha, pl⟩
    · cases e
    · cases e
  · rcases at_ i _ h with ⟨rfl, e⟩ | ⟨j, d', rfl, e, h'⟩ | e <;> cases e
  · rcases at_ i _ h with ⟨rfl, e⟩ | ⟨j, d', rfl, e, h'⟩ | e <;> cases e
section
variable {P : Program} {w : World} {K : PySem.W.Frag} {mg : Str → Option Value} {base : Heap} {cls : Str → Addr}
theorem fnQ {x qual : Str} {st : Stmt} {f : Addr} {fd : FuncData} {N ps : List Str} {k : Nat} {M : MS} (F : Fun K x qual st f fd) (S : FnScope N ps (defScope st))
    (hbody : ∀ (cdv : Value) (A : Around) (outer : List Env) (s : Shared) (H G : Hp) (E : XK) (a : Addr), Room k (A.deeper (envOfC qual (defScope st) s.heap.objs.size f cdv)) →
      PSs (cxOf (L2.CX P w) P w K mg base N qual (defScope st) f cdv A outer s H E) (defBody st) (tS (fcQ K cls G H a) E M)) :
    FnOk P w K mg base (L2.CX P w) (k + 1) f fd ps (spQ K (runQ M ps.length (N.length - ps.length))) := by
  have hpl : ps.length ≤ N.length := by have := congrArg List.length S.pre; rw [List.length_take] at this; omega
  refine F.okX S (fun vs H Q E h => ?_) (fun cdv A outer s H vs Q E hr h => ?_)
  · obtain ⟨G, a, xs, l, us, ds, rfl, _, _, _, _, _, p, h⟩ := h
    rw [List.length_cons, p.length]
    unfold runQ at h
    by_cases e : ds.length + 1 = ps.length
    · exact e
    · rw [if_neg e] at h; exact h.elim
  · obtain ⟨G, a, xs, l, us, ds, rfl, sub, gnt, ga, ha, pl, p, h⟩ := h
    refine ⟨_, hbody cdv A outer s H G E a hr, ?_⟩
    have hl : ds.length + 1 = ps.length := by
      unfold runQ at h
      by_cases e : ds.length + 1 = ps.length
      · exact e
      · rw [if_neg e] at h; exact h.elim
    have hst : Hst (fcQ K cls G H a) G H := ⟨sub, gnt, Same.refl _, fun _ z => z, fun _ z => z, fun _ _ z _ _ => z, fun _ _ z => z, fun p hp => by cases hp⟩
    have st := stt_startQ (C := fcQ K cls G H a) (N := N) hst ga ha (by simp) pl p (by rw [hl]; exact hpl)
    refine ⟨_, _, G, st, ?_⟩
    unfold runQ at h
    rw [if_pos hl] at h
    rw [hl]
    have own0 : ∀ {r : DEnv} {m : List D} {ad' : Nat → Addr} {σ' : L2.St} {G' H' : Hp}, Stt (fcQ K cls G H a) (.own true m :: r) ad' σ' G' H' → ∃ ys, H' a = some (.lst ys) ∧ RpL K G' ys m := by
      intro r m ad' σ' G' H' s'
      obtain ⟨h1, h2, h3, ys, h4, h5⟩ := s'.own 0 true m rfl
      have e : ad' 0 = a := by simpa using h2
      rw [e] at h4
      exact ⟨ys, h4, h5⟩
    generalize M (Sl.own true l :: ds.map Sl.dat ++ List.replicate (N.length - ps.length) Sl.un) = z at h
    cases z with
    | nx r =>
      cases r with
      | nil => exact h.elim
      | cons q r =>
        cases q with
        | own b m =>
          cases b with
          | true =>
            intro ad' σ' G' H' s' _
            obtain ⟨ys, y1, y2⟩ := own0 s'
            exact h .non ys G' H' s'.hst.growX y1 y2 .non
          | false => exact h.elim
        | _ => exact h.elim
    | rt d r =>
      cases r with
      | nil => exact h.elim
      | cons q r =>
        cases q with
        | own b m =>
          cases b with
          | true =>
            intro v ad' σ' G' H' s' pv
            obtain ⟨ys, y1, y2⟩ := own0 s'
            exact h v ys G' H' s'.hst.growX y1 y2 pv
          | false => exact h.elim
        | _ => exact h.elim
    | rtO ll r =>
      cases r with
      | nil => exact h.elim
      | cons q r =>
        cases q with
        | own b m =>
          cases b with
          | true =>
            intro p xs' ad' σ' G' H' s' np h0 g' h' pv
            obtain ⟨ys, y1, y2⟩ := own0 s'
            exact h p xs' ys G' H' s'.hst.growX y1 y2 h0 g' h' pv
          | false => exact h.elim
        | _ => exact h.elim
    | exc c fs => exact h.elim
    | bk r => exact h.elim
    | ct r => exact h.elim
    | bad => exact h.elim
end
section
variable {X : Cx} {C : Fc} {E : XK} {pos : Pos}
/-- a call f(x, ..), x's list held alone in slot i -/
def mCallP (i : Nat) (F : List D → List D → QR) (a : MA) : ME := fun r => match r[i]? with
  | some (.own _ _) => (match a r with
    | .ok ds r1 => (match r1[i]? with
      | some (.own k l) => (match F l ds with
        | .ok d l' => .ok d (r1.set i (.own k l'))
        | .own m l' => .ok (.lst m) (r1.set i (.own k l'))
        | .bad => .bad)
      | _ => .bad)
    | .exc c fs => .exc c fs
    | .bad => .bad)
  | _ => .bad
def mCallPO (i : Nat) (F : List D → List D → QR) (a : MA) : MA := fun r => match r[i]? with
  | some (.own _ _) => (match a r with
    | .ok ds r1 => (match r1[i]? with
      | some (.own k l) => (match F l ds with
        | .own m l' => .ok m (r1.set i (.own k l'))
        | _ => .bad)
      | _ => .bad)
    | .exc c fs => .exc c fs
    | .bad => .bad)
  | _ => .bad
theorem Stt.growX {r : DEnv} {ad : Nat → Addr} {σ : L2.St} {G H G' H' : Hp} {i : Nat} {k : Bool} {l l' : List D} {ys : List V} (s : Stt C r ad σ G H) (e : r[i]? = some (.own k l)) (w : GrowX (ad i) G H G' H') (hy : H' (ad i) = some (.lst ys)) (p : RpL C.K G' ys l') :
    Stt C (r.set i (.own k l')) ad σ G' H' ∧ Kp C r (r.set i (.own k l')) ad G H G' H' := by
  obtain ⟨h1, h2, h3, xs, h4, h5⟩ := s.own i k l e
  have oi : isOwn r i := .inl ⟨k, l, e⟩
  have hsub : ∀ j, isOwn (r.set i (.own k l')) j → isOwn r j := fun j h => by
    rcases own_set h with z | z
    · rw [z]; exact oi
    · exact z
  have dom : ∀ b, H b ≠ none → H' b ≠ none := fun b n => by
    by_cases hb : b = ad i
    · rw [hb, hy]; simp
    · obtain ⟨o, q⟩ := some_of_ne n
      rw [w.h b o q hb]; simp
  have domN : ∀ b, wr (H b) → wr (H' b) := fun b n => by
    by_cases hb : b = ad i
    · rw [hb, hy]; trivial
    · cases q : H b with
      | none => rw [q] at n; exact n.elim
      | some o => rw [w.h b o q hb]; rw [q] at n; exact n
  have tabs : LamX.Tabs C.T H' := by
    intro p hp
    obtain ⟨ps, e1, e2, e3⟩ := s.hst.tabs p hp
    refine ⟨ps, w.h _ _ e1 (fun z => by rw [z, h4] at e1; cases e1), e2, fun pos cv h => ?_⟩
    obtain ⟨c, z1, z2⟩ := e3 pos cv h
    exact ⟨c, z1, w.h _ _ z2 (fun z => by rw [z, h4] at z2; cases z2)⟩
  have hst : Hst C G' H' := by
    refine ⟨w.sub, w.gnt, s.hst.g0.trans w.g, fun b n => dom b (s.hst.dom b n), fun b n => domN b (s.hst.domN b n), fun b o q n t => ?_, fun b n z => w.nofz b (s.hst.domN b n) (s.hst.nofz b n z), tabs⟩
    refine w.h b o (s.hst.keep b o q n t) (fun z => ?_)
    cases k with
    | true => exact n (by rw [z]; exact h2)
    | false =>
      have h2' : C.H0 (ad i) = none := h2
      rw [z, h2'] at q; cases q
  refine ⟨⟨hst, by simpa using s.len, fun j d q => ?_, fun j k' m q => ?_, fun j t m q => ?_, fun j c m q => ?_, fun j j' a b => s.inj j j' (hsub j a) (hsub j' b)⟩, ⟨w.g, hsub, dom, domN, fun b u z n _ => w.h b u z (n i oi), fun b z y _ => w.nofz b z y⟩⟩
  · rcases get_set q with ⟨_, q, _⟩ | ⟨n, q⟩
    · cases q
    · obtain ⟨v, a1, a2⟩ := s.dat j d q
      exact ⟨v, a1, a2.up w.g⟩
  · rcases get_set q with ⟨rfl, q, _⟩ | ⟨n, q⟩
    · cases q
      exact ⟨h1, h2, w.nofz _ (wr_lst h4) h3, ys, hy, p⟩
    · obtain ⟨z1, z2, z3, zs, z4, z5⟩ := s.own j k' m q
      have ne : ad j ≠ ad i := fun z => n (s.inj j i (.inl ⟨k', m, q⟩) oi z)
      exact ⟨z1, z2, w.nofz _ (wr_lst z4) z3, zs, w.h _ _ z4 ne, z5.up w.g⟩
  · rcases get_set q with ⟨_, q, _⟩ | ⟨n, q⟩
    · cases q
    · obtain ⟨z1, z2, z3, z4⟩ := s.ownD j t m q
      have ne : ad j ≠ ad i := fun z => n (s.inj j i (.inr (.inl ⟨t, m, q⟩)) oi z)
      obtain ⟨o, ho⟩ := some_of_ne z4.ne
      exact ⟨z1, z2, w.nofz _ z4.wr z3, z4.up w.g (by rw [ho, w.h _ _ ho ne])⟩
  · rcases get_set q with ⟨_, q, _⟩ | ⟨n, q⟩
    · cases q
    · obtain ⟨z1, z2, z3, z4⟩ := s.ownI j c m q
      have ne : ad j ≠ ad i := fun z => n (s.inj j i (.inr (.inr ⟨c, m, q⟩)) oi z)
      refine ⟨z1, z2, w.nofz _ z4.wr z3, z4.up w.g (fun b u q y => w.h b u q ?_) fun b q z => w.nofz b (by rw [q]; trivial) z⟩
      rcases y with y | y
      · rw [y]; exact ne
      · intro y'; rw [y', h4, y] at q; cases q
theorem tE_callP {i : Nat} {F : List D → List D → QR} {a : MA} : ∀ σ H Q, tE C E (mCallP i F a) σ H Q → tCons (tVar i) (tA C E a) σ H (fun vs H1 => spQ C.K F vs H1 Q E) := by
  intro σ H Q ⟨r, ad, G, s, k⟩
  unfold mCallP at k
  split at k
  · rename_i k0 l0 e0
    obtain ⟨h1, _⟩ := s.own i k0 l0 e0
    refine ⟨_, h1, r, ad, G, s, ?_⟩
    unfold kA
    unfold kE at k
    cases ea : a r with
    | bad => simp only [ea] at k
    | exc c fs => simp only [ea] at k; exact k
    | ok ds r1 =>
      simp only [ea] at k
      intro vs G1 H1 s1 k1 p1
      cases er : r1[i]? with
      | none => simp only [er] at k
      | some q =>
        simp only [er] at k
        cases q with
        | own kk l =>
          simp only at k
          obtain ⟨z1, z2, z3, xs, z4, z5⟩ := s1.own i kk l er
          refine ⟨G1, ad i, xs, l, vs, ds, rfl, s1.hst.sub, s1.hst.gnt, z3, z4, z5, p1, ?_⟩
          cases eF : F l ds with
          | bad => simp only [eF] at k
          | ok d l' =>
            simp only [eF] at k
            intro v ys G2 H2 w hy pl pv
            obtain ⟨s2, k2⟩ := s1.growX er w hy pl
            exact k v G2 H2 s2 (k1.trans k2) pv
          | own m l' =>
            simp only [eF] at k
            intro p zs ys G2 H2 w hy pl n g h pm
            obtain ⟨s2, k2⟩ := s1.growX er w hy pl
            have np : ∀ j, isOwn (r1.set i (.own kk l')) j → ad j ≠ p := fun j hj z => s1.own_ne (k2.o j hj) (by rw [z]; exact n)
            have s3 := s2.still g (new_H0 s1 n) h (fun _ z => nomatch z) np
            exact k (.ref p) _ H2 s3 (k1.trans (k2.still n g)) (.lst upd_same (pm.up (same_upd g)))
        | _ => exact k.elim
  · exact k.elim
theorem tO_callP {i : Nat} {F : List D → List D → QR} {a : MA} : ∀ σ H Q, tO C E (mCallPO i F a) σ H Q → tCons (tVar i) (tA C E a) σ H (fun vs H1 => spQ C.K F vs H1 Q E) := by
  intro σ H Q ⟨r, ad, G, s, k⟩
  unfold mCallPO at k
  split at k
  · rename_i k0 l0 e0
    obtain ⟨h1, _⟩ := s.own i k0 l0 e0
    refine ⟨_, h1, r, ad, G, s, ?_⟩
    unfold kA
    unfold kO at k
    cases ea : a r with
    | bad => simp only [ea] at k
    | exc c fs => simp only [ea] at k; exact k
    | ok ds r1 =>
      simp only [ea] at k
      intro vs G1 H1 s1 k1 p1
      cases er : r1[i]? with
      | none => simp only [er] at k
      | some q =>
        simp only [er] at k
        cases q with
        | own kk l =>
          simp only at k
          obtain ⟨z1, z2, z3, xs, z4, z5⟩ := s1.own i kk l er
          refine ⟨G1, ad i, xs, l, vs, ds, rfl, s1.hst.sub, s1.hst.gnt, z3, z4, z5, p1, ?_⟩
          cases eF : F l ds with
          | bad => simp only [eF] at k
          | ok d l' => simp only [eF] at k
          | own m l' =>
            simp only [eF] at k
            intro p zs ys G2 H2 w hy pl n g h pm
            obtain ⟨s2, k2⟩ := s1.growX er w hy pl
            have n0 : H p = none := by
              cases q : H p with
              | none => rfl
              | some o => exact absurd n (k1.dom p (by rw [q]; simp))
            exact k p zs G2 H2 s2 (k1.trans k2) n0 g h pm
        | _ => exact k.elim
  · exact k.elim
variable {x y : Str} {p p2 : Pos} {es : List Expr} {CX : CXT} {k : Nat} {f : Addr} {fd : FuncData} {ps : List Str} {F : List D → List D → QR} {a : MA} {i : Nat}
theorem e_callP (Fn : FnOk X.prog X.w X.K X.mg X.base CX k f fd ps (spQ C.K F)) (hr : Room k X.A) (hm : X.mg x = some (.ref f)) (hk : PySem.W.keepIn X.K (.ref f) = true) (hb : Binds X.K fd ps []) (hx : Passes CX X E)
    (ha : PA X es (tA C E a)) (hg : Gl X x := by rfl) (hN : X.N[i]? = some y := by rfl) (hv : Vis X.env.scope y := by first | exact Or.inl rfl | exact Or.inr (Or.inl rfl) | exact Or.inr (Or.inr rfl))
    (hd : (y == ("__debug__" : Str)) = false := by decide) (hcd : (y == ("__classdict__" : Str)) = false := by decide)
    (hdb : (x == ("__debug__" : Str)) = false := by decide) (he : starEach (.Name y p2 :: es) X.env = (false, eval (.Name y p2) X.env) :: starEach es X.env := by rfl) (hpl : (backTo pos (starEach es X.env)).any (·.1) = false := by rfl) :
    PE X (.Call (.Name x p) (.Name y p2 :: es) [] pos) (tE C E (mCallP i F a)) := by
  refine PE.imp (pe_call (dvs := []) Fn hr hg hm hk hb .nil hx (pa_cons (pe_var hN hv hd hcd) ha he) hdb he hpl) fun σ H Q h => ?_
  have q := tE_callP σ H Q h
  simpa only [tCall, List.append_nil] using q
theorem o_callP (Fn : FnOk X.prog X.w X.K X.mg X.base CX k f fd ps (spQ C.K F)) (hr : Room k X.A) (hm : X.mg x = some (.ref f)) (hk : PySem.W.keepIn X.K (.ref f) = true) (hb : Binds X.K fd ps []) (hx : Passes CX X E)
    (ha : PA X es (tA C E a)) (hg : Gl X x := by rfl) (hN : X.N[i]? = some y := by rfl) (hv : Vis X.env.scope y := by first | exact Or.inl rfl | exact Or.inr (Or.inl rfl) | exact Or.inr (Or.inr rfl))
    (hd : (y == ("__debug__" : Str)) = false := by decide) (hcd : (y == ("__classdict__" : Str)) = false := by decide)
    (hdb : (x == ("__debug__" : Str)) = false := by decide) (he : starEach (.Name y p2 :: es) X.env = (false, eval (.Name y p2) X.env) :: starEach es X.env := by rfl) (hpl : (backTo pos (starEach es X.env)).any (·.1) = false := by rfl) :
    PE X (.Call (.Name x p) (.Name y p2 :: es) [] pos) (tO C E (mCallPO i F a)) := by
  refine PE.imp (pe_call (dvs := []) Fn hr hg hm hk hb .nil hx (pa_cons (pe_var hN hv hd hcd) ha he) hdb he hpl) fun σ H Q h => ?_
  have q := tO_callP σ H Q h
  simpa only [tCall, List.append_nil] using q
end
end DL

/-! Built-ins over data. -/
namespace DL
open PySem PySem.Spec PyProof.Rows L2
def b1 (g : D → Option D) (l : List D) : Option D := match l with
  | [] => none
  | x :: r => match r with
    | [] => g x
    | _ :: _ => none
def b2 (g : D → D → Option D) (l : List D) : Option D := match l with
  | [] => none
  | x :: r => b1 (g x) r
section
variable {X : Cx} {C : Fc} {E : XK}
theorem callD1 {q : List V → Hp → VK → Prop} {g : D → Option D} (h : UnD C (fun v H Q => q [v] H Q) g) : CallD C q (b1 g) := by
  intro G H vs ds d Q s p e k
  cases p with
  | nil => cases e
  | cons p1 p2 =>
    cases p2 with
    | nil => exact h G H _ _ d Q s p1 e k
    | cons _ _ => cases e
theorem callD2 {q : List V → Hp → VK → Prop} {g : D → D → Option D} (h : OpD C (fun v u H Q => q [v, u] H Q) g) : CallD C q (b2 g) := by
  intro G H vs ds d Q s p e k
  cases p with
  | nil => cases e
  | cons p1 p2 =>
    cases p2 with
    | nil => cases e
    | cons p2 p3 =>
      cases p3 with
      | nil => exact h G H _ _ _ _ d Q s p1 p2 e k
      | cons _ _ => cases e
def gInt (x : D) : Option D := match x with
  | .int i => some (.int i)
  | .bl b => some (.int (if b then 1 else 0))
  | _ => none
theorem d_int : CallD C (fun xs H Q => (∃ i, xs = [.int i] ∧ Q (.int i) H) ∨ ∃ k, xs = [.bl k] ∧ Q (.int (if k then 1 else 0)) H) (b1 gInt) := callD1 fun G H v d1 d Q s h1 e k => by
  cases d1 <;> first | (cases e; done) | skip
  · cases e
    rw [rp_bl h1]
    exact .inr ⟨_, rfl, k _ G H (Grow.refl s) (.int _)⟩
  · cases e
    rw [rp_int h1]
    exact .inl ⟨_, rfl, k _ G H (Grow.refl s) (.int _)⟩
def gLen (x : D) : Option D := match x with
  | .lst l => some (.int l.length)
  | .tup l => some (.int l.length)
  | .scr l => some (.int l.length)
  | .cst l => some (.int l.length)
  | .str s => if s.length ≤ 16777216 then some (.int s.length) else none
  | _ => none
theorem d_len : CallD C (fun xs H Q => ∃ x n, xs = [x] ∧ LenV C.K x H n ∧ Q (.int n) H) (b1 gLen) := callD1 fun G H v d1 d Q s h1 e k => by
  cases d1 <;> first | (cases e; done) | skip
  · rename_i z
    unfold gLen at e
    simp only at e
    split at e
    · rename_i hz
      cases e
      rw [rp_str h1]
      exact ⟨_, _, rfl, ⟨by rw [sizeLine_eq]; exact hz, rfl⟩, k _ G H (Grow.refl s) (.int _)⟩
    · cases e
  · cases e
    cases h1 with
    | tup hs hp => exact ⟨_, _, rfl, .inr ⟨_, SqT.of (s.sub _ _ hs), hp.length.symm⟩, k _ G H (Grow.refl s) (.int _)⟩
  · cases e
    cases h1 with
    | lst hs hp => exact ⟨_, _, rfl, .inl ⟨_, SqL.of (s.sub _ _ hs), hp.length.symm⟩, k _ G H (Grow.refl s) (.int _)⟩
  · cases e
    cases h1 with
    | scr hs => exact ⟨_, _, rfl, .inl ⟨_, s.sub.seq hs, (List.length_map ..).symm⟩, k _ G H (Grow.refl s) (.int _)⟩
  · cases e
    cases h1 with
    | cst hs hp => exact ⟨_, _, rfl, .inr ⟨_, SqT_same s.sub hs, hp.length.symm⟩, k _ G H (Grow.refl s) (.int _)⟩
end
end DL

/-! Calls of the text's own defs by their names; equality; isinstance. -/
namespace DL
open PySem PySem.Spec PyProof.Rows L2
/-- a def of the text as the top has left it -/
structure Dfn (K : PySem.W.Frag) (mg : Str → Option Value) (x : Str) (st : Stmt) (ps : List Str) : Prop where
  ex : ∃ f fd, Fun K x x st f fd ∧ mg x = some (.ref f) ∧ Binds K fd ps []
/-- .. and its promise -/
structure Df (P : Program) (w : World) (K : PySem.W.Frag) (mg : Str → Option Value) (base : Heap) (k : Nat) (x : Str) (sp : Sp) : Prop where
  ex : ∃ f fd ps, FnOk P w K mg base (L2.CX P w) k f fd ps sp ∧ mg x = some (.ref f) ∧ PySem.W.keepIn K (.ref f) = true ∧ Binds K fd ps []
section
variable {P : Program} {w : World} {K : PySem.W.Frag} {mg : Str → Option Value} {base : Heap} {cls : Str → Addr}
theorem dfF {x : Str} {st : Stmt} {N ps : List Str} {M : MS} (k : Nat) (d : Dfn K mg x st ps) (S : FnScope N ps (defScope st))
    (hbody : ∀ (f : Addr) (cdv : Value) (A : Around) (outer : List Env) (s : Shared) (H G : Hp) (E : XK), Room k (A.deeper (envOfC x (defScope st) s.heap.objs.size f cdv)) →
      PSs (cxOf (L2.CX P w) P w K mg base N x (defScope st) f cdv A outer s H E) (defBody st) (tS (fc0 K cls G H) E M)) :
    Df P w K mg base (k + 1) x (spF K cls (runF M ps.length (N.length - ps.length))) := by
  obtain ⟨f, fd, F, m, b⟩ := d.ex
  exact ⟨f, fd, ps, fnF F S (hbody f), m, F.kp, b⟩
theorem dfQ {x : Str} {st : Stmt} {N ps : List Str} {M : MS} (k : Nat) (d : Dfn K mg x st ps) (S : FnScope N ps (defScope st))
    (hbody : ∀ (f : Addr) (cdv : Value) (A : Around) (outer : List Env) (s : Shared) (H G : Hp) (E : XK) (a : Addr), Room k (A.deeper (envOfC x (defScope st) s.heap.objs.size f cdv)) →
      PSs (cxOf (L2.CX P w) P w K mg base N x (defScope st) f cdv A outer s H E) (defBody st) (tS (fcQ K cls G H a) E M)) :
    Df P w K mg base (k + 1) x (spQ K (runQ M ps.length (N.length - ps.length))) := by
  obtain ⟨f, fd, F, m, b⟩ := d.ex
  exact ⟨f, fd, ps, fnQ F S (hbody f), m, F.kp, b⟩
theorem px {N : List Str} {qual : Str} {scope : Scope} {f : Addr} {cdv : Value} {A : Around} {outer : List Env} {s : Shared} {H : Hp} {E : XK} : Passes (L2.CX P w) (cxOf (L2.CX P w) P w K mg base N qual scope f cdv A outer s H E) E :=
  passes_call (takes_of rfl rfl rfl rfl) (fun _ _ _ _ h => h)
theorem po {N : List Str} {qual : Str} {scope : Scope} {f : Addr} {cdv : Value} {A : Around} {outer : List Env} {s : Shared} {H : Hp} {E : XK} :
    PassesOwn (model P w) (A.deeper (envOfC qual scope s.heap.objs.size f cdv)) (envOfC qual scope s.heap.objs.size f cdv) (cxOf (L2.CX P w) P w K mg base N qual scope f cdv A outer s H E).xe := by
  have h := passes_of (X := cxOf (L2.CX P w) P w K mg base N qual scope f cdv A outer s H E) (K := fun e s'' => L2.CX P w outer H s E e s'') (E₁ := fun e' s'' => L2.CX P w outer H s E e' s'') rfl
  exact h
end
section
variable {X : Cx} {C : Fc} {E : XK} {pos : Pos} {x y : Str} {p p2 : Pos} {e : Expr} {es : List Expr} {k j : Nat} {F : List D → FR} {Fq : List D → List D → QR} {a : MA} {i : Nat}
theorem e_df (d : Df X.prog X.w X.K X.mg X.base k x (spF C.K C.cls F)) (hr : Room j X.A) (hx : Passes (L2.CX X.prog X.w) X E) (ha : PA X (e :: es) (tA C E a)) (hk : k ≤ j := by decide) (hg : Gl X x := by rfl) (hdb : (x == ("__debug__" : Str)) = false := by decide)
    (he : starEach (e :: es) X.env = (false, eval e X.env) :: starEach es X.env := by rfl) (hpl : (backTo pos (starEach es X.env)).any (·.1) = false := by rfl) : PE X (.Call (.Name x p) (e :: es) [] pos) (tE C E (mCall F a)) := by
  obtain ⟨f, fd, ps, o, m, kp, b⟩ := d.ex
  exact e_call o (hr.mono hk) m kp b hx ha hg hdb he hpl
theorem o_df (d : Df X.prog X.w X.K X.mg X.base k x (spF C.K C.cls F)) (hr : Room j X.A) (hx : Passes (L2.CX X.prog X.w) X E) (ha : PA X (e :: es) (tA C E a)) (hk : k ≤ j := by decide) (hg : Gl X x := by rfl) (hdb : (x == ("__debug__" : Str)) = false := by decide)
    (he : starEach (e :: es) X.env = (false, eval e X.env) :: starEach es X.env := by rfl) (hpl : (backTo pos (starEach es X.env)).any (·.1) = false := by rfl) : PE X (.Call (.Name x p) (e :: es) [] pos) (tO C E (mCallO F a)) := by
  obtain ⟨f, fd, ps, o, m, kp, b⟩ := d.ex
  exact o_call o (hr.mono hk) m kp b hx ha hg hdb he hpl
theorem e_dp (d : Df X.prog X.w X.K X.mg X.base k x (spQ C.K Fq)) (hr : Room j X.A) (hx : Passes (L2.CX X.prog X.w) X E) (ha : PA X es (tA C E a)) (hk : k ≤ j := by decide) (hg : Gl X x := by rfl) (hN : X.N[i]? = some y := by rfl) (hv : Vis X.env.scope y := by first | exact Or.inl rfl | exact Or.inr (Or.inl rfl) | exact Or.inr (Or.inr rfl))
    (hd : (y == ("__debug__" : Str)) = false := by decide) (hcd : (y == ("__classdict__" : Str)) = false := by decide)
    (hdb : (x == ("__debug__" : Str)) = false := by decide) (he : starEach (.Name y p2 :: es) X.env = (false, eval (.Name y p2) X.env) :: starEach es X.env := by rfl) (hpl : (backTo pos (starEach es X.env)).any (·.1) = false := by rfl) :
    PE X (.Call (.Name x p) (.Name y p2 :: es) [] pos) (tE C E (mCallP i Fq a)) := by
  obtain ⟨f, fd, ps, o, m, kp, b⟩ := d.ex
  exact e_callP o (hr.mono hk) m kp b hx ha hg hN hv hd hcd hdb he hpl
theorem o_dp (d : Df X.prog X.w X.K X.mg X.base k x (spQ C.K Fq)) (hr : Room j X.A) (hx : Passes (L2.CX X.prog X.w) X E) (ha : PA X es (tA C E a)) (hk : k ≤ j := by decide) (hg : Gl X x := by rfl) (hN : X.N[i]? = some y := by rfl) (hv : Vis X.env.scope y := by first | exact Or.inl rfl | exact Or.inr (Or.inl rfl) | exact Or.inr (Or.inr rfl))
    (hd : (y == ("__debug__" : Str)) = false := by decide) (hcd : (y == ("__classdict__" : Str)) = false := by decide)
    (hdb : (x == ("__debug__" : Str)) = false := by decide) (he : starEach (.Name y p2 :: es) X.env = (false, eval (.Name y p2) X.env) :: starEach es X.env := by rfl) (hpl : (backTo pos (starEach es X.env)).any (·.1) = false := by rfl) :
    PE X (.Call (.Name x p) (.Name y p2 :: es) [] pos) (tO C E (mCallPO i Fq a)) := by
  obtain ⟨f, fd, ps, o, m, kp, b⟩ := d.ex
  exact o_callP o (hr.mono hk) m kp b hx ha hg hN hv hd hcd hdb he hpl
/-- a constant of the top -/
theorem e_g {d : D} (h : ∃ u v, X.mg x = some u ∧ RelV v u ∧ ∀ G, Rp C.K G v d) (hg : Gl X x := by rfl) (hd : (x == ("__debug__" : Str)) = false := by decide) : PE X (.Name x pos) (tE C E (mC d)) := by
  obtain ⟨u, v, m, rv, hr⟩ := h
  exact e_c (pe_glob hg m rv hd) hr
end

/-! ### equality -/
mutual
def toP : D → PyData
  | .non => .none
  | .bl b => .bool b
  | .int i => .int i
  | .str s => .str s
  | .tup l => .tuple (toPs l)
  | .lst l => .list (toPs l)
  | .dct _ _ => .dict []
  | .obj _ _ => .dict []
  | .scr _ => .dict []
  | .cst l => .tuple (toPs l)
def toPs : List D → List PyData
  | [] => []
  | d :: l => toP d :: toPs l
end
mutual
theorem dp_of {K : PySem.W.Frag} {G H : Hp} (e : Same G H) : ∀ (d : D) (v : V), (toP d).canLay0 = true → Rp K G v d → Dp K H v (toP d)
  | .non, _, _, h => by cases h; exact .non
  | .bl b, _, _, h => by cases h; exact .bl b
  | .int i, _, _, h => by cases h; exact .int i
  | .str s, _, _, h => by cases h; exact .str s
  | .tup l, _, c, h => by
    cases h with
    | tup h1 h2 => exact .tup (SqT.of (e _ _ h1)) (dps_of e l _ (by simpa [toP, PyData.canLay0] using c) h2)
  | .cst l, _, c, h => by
    cases h with
    | cst h1 h2 => exact .tup (SqT_same e h1) (dps_of e l _ (by simpa [toP, PyData.canLay0] using c) h2)
  | .lst l, _, c, h => by
    cases h with
    | lst h1 h2 => exact .lst (SqL.of (e _ _ h1)) (dps_of e l _ (by simpa [toP, PyData.canLay0] using c) h2)
  | .dct t l, _, c, h => by simp [toP, PyData.canLay0] at c
  | .obj t l, _, c, h => by simp [toP, PyData.canLay0] at c
  | .scr l, _, c, h => by simp [toP, PyData.canLay0] at c
theorem dps_of {K : PySem.W.Frag} {G H : Hp} (e : Same G H) : ∀ (l : List D) (vs : List V), PyData.canLayAll0 (toPs l) = true → RpL K G vs l → DpAll K H vs (toPs l)
  | [], _, _, h => by cases h; exact .nil
  | d :: l, _, c, h => by
    cases h with
    | cons h1 h2 =>
      have c' : (toP d).canLay0 = true ∧ PyData.canLayAll0 (toPs l) = true := by simpa [toPs, PyData.canLayAll0] using c
      exact .cons (dp_of e d _ c'.1 h1) (dps_of e l _ c'.2 h2)
end
def okEq (d : D) : Bool := SeqAt.shaped (toP d)
def eqB (d e : D) : Bool := PyData.eqv (toP d) (toP e)
def gEq (d e : D) : Option D := if okEq d && okEq e then some (.bl (eqB d e)) else none
def gNe (d e : D) : Option D := if okEq d && okEq e then some (.bl (!eqB d e)) else none
section
variable {C : Fc}
theorem d_eq : OpD C (rEqD C.K) gEq := by
  intro G H v1 v2 d1 d2 d Q s h1 h2 e k
  unfold gEq at e
  split at e
  · rename_i ho
    obtain ⟨o1, o2⟩ := Bool.and_eq_true_iff.mp ho
    cases e
    exact ⟨toP d1, toP d2, dp_of s.sub d1 v1 (SeqAt.canLay_of_shaped o1) h1, dp_of s.sub d2 v2 (SeqAt.canLay_of_shaped o2) h2, o1, o2, k _ G H (Grow.refl s) (.bl _)⟩
  · cases e
theorem d_ne : OpD C (rNeD C.K) gNe := by
  intro G H v1 v2 d1 d2 d Q s h1 h2 e k
  unfold gNe at e
  split at e
  · rename_i ho
    obtain ⟨o1, o2⟩ := Bool.and_eq_true_iff.mp ho
    cases e
    exact ⟨toP d1, toP d2, dp_of s.sub d1 v1 (SeqAt.canLay_of_shaped o1) h1, dp_of s.sub d2 v2 (SeqAt.canLay_of_shaped o2) h2, o1, o2, k _ G H (Grow.refl s) (.bl _)⟩
  · cases e
end
end DL

/-! isinstance, all, any, tuple, list, +, *, in, a, b = x, y; range, signs. -/
namespace DL
open PySem PySem.Spec PyProof.Rows L2
/-! ### isinstance -/
def tyD : D → String
  | .non => "NoneType"
  | .bl _ => "bool"
  | .int _ => "int"
  | .str _ => "str"
  | .tup _ => "tuple"
  | .lst _ => "list"
  | .dct _ _ => "dict"
  | .obj _ _ => "object"
  | .scr _ => "list"
  | .cst _ => "tuple"
inductive Ty where
  | int | bool | str | list | tuple | dict
def Ty.nm : Ty → String
  | .int => "int" | .bool => "bool" | .str => "str" | .list => "list" | .tuple => "tuple" | .dict => "dict"
def isT : Ty → D → Bool
  | .int, .int _ => true
  | .int, .bl _ => true
  | .bool, .bl _ => true
  | .str, .str _ => true
  | .list, .lst _ => true
  | .list, .scr _ => true
  | .tuple, .tup _ => true
  | .tuple, .cst _ => true
  | .dict, .dct _ _ => true
  | _, _ => false
def okTy : D → Bool
  | .scr _ => false
  | .obj _ _ => false
  | _ => true
def gIsi (t : Ty) (d : D) : Option D := match d with
  | .scr _ => none
  | .obj _ _ => none
  | d => some (.bl (isT t d))
def gIsiLT (d : D) : Option D := match d with
  | .scr _ => none
  | .obj _ _ => none
  | d => some (.bl (isT .list d || isT .tuple d))
theorem tyX_of {K : PySem.W.Frag} {G H : Hp} (e : Same G H) {v : V} {d : D} (h : Rp K G v d) (n : okTy d = true) : TyX K H v (.type (tyD d)) ∨ ∃ o kvs a, v = .ref a ∧ H a = some (.frz o (.dT kvs)) ∧ tyD d = "dict" := by
  cases h with
  | non => exact .inl (.base .non)
  | bl b => exact .inl (.base (.bl b))
  | int i => exact .inl (.base (.int i))
  | str s => exact .inl (.base (.str s))
  | tup hs _ => exact .inl (.base (.tup (e _ _ hs)))
  | cst hs _ =>
    rcases hs with (hs | ⟨o, hs⟩) | ⟨o, its, m, hk, hc, _⟩
    · exact .inl (.base (.tup (e _ _ hs)))
    · exact .inl (.fTuple (e _ _ hs))
    · exact .inl (.kTuple hk hc)
  | lst hs _ => exact .inl (.base (.lst (e _ _ hs)))
  | scr hs => cases n
  | ins h0 h1 h2 h3 => cases n
  | dK hs _ => exact .inl (.fDict (e _ _ hs))
  | dT hs _ => exact .inr ⟨_, _, _, rfl, e _ _ hs, rfl⟩
def TyY (K : PySem.W.Frag) (H : Hp) (v : V) (t : Value) : Prop := TyX K H v t ∨ ∃ o kvs a, v = .ref a ∧ H a = some (.frz o (.dT kvs)) ∧ t = .type "dict"
section
variable {X : Cx} {pins : List (Addr × Obj)} {σ : L2.St} {H : Hp} {s : Shared}
theorem kit_ofY {x : V} {u t : Value} (I : Inv X pins σ H s) (rx : RelV x u) (ty : TyY X.K H x t) : ∃ P : Heap → Prop, PySem.W.KitX X.K u t P ∧ P s.heap ∧ u ≠ .builtin "__main__.__loader__#opaque" := by
  rcases ty with ty | ⟨ob, kvs, a, rfl, ea, rfl⟩
  · exact kit_of I rx ty
  · cases (show u = Value.ref a from rx)
    obtain ⟨_, _, _, xs, _, o, es, ep, h1, h2, _⟩ := (show ObjOk X.prog X.w H s.heap a (.frz ob (.dT kvs)) from I.hok a _ ea)
    exact ⟨_, PySem.W.kitx_dict, ⟨o, h1, h2.1⟩, fun z => nomatch z⟩
def rIsiY (K : PySem.W.Frag) : List V → Hp → VK → Prop := fun xs H Q => ∃ (x c : V) (t u : Value) (b : Bool), xs = [x, c] ∧ ClsV c u ∧ TyY K H x t ∧ PySem.W.kitOne K t u = some b ∧ Q (.bl b) H
def rIsiTY (K : PySem.W.Frag) : List V → Hp → VK → Prop := fun xs H Q => ∃ (x : V) (tp : Addr) (cs : List V) (t : Value) (us : List Value) (b : Bool), xs = [x, .ref tp] ∧ H tp = some (.tup cs) ∧ Paired ClsV cs us ∧ TyY K H x t ∧ PySem.W.kitAny K t us = some b ∧ Q (.bl b) H
theorem call_isiY : CallR X (.builtin "isinstance") (rIsiY X.K) := by
  intro pins s σ H xs us Q I r h
  obtain ⟨x, c, t, u, b, rfl, k, ty, e, q⟩ := h
  cases r with
  | cons r1 r2 =>
    cases r2 with
    | cons r2 r3 =>
      cases r3
      have e2 := k.eq r2
      subst e2
      obtain ⟨P, Z, p, hx⟩ := kit_ofY I r1 ty
      exact PySem.W.kia_one Z I.kIn p e hx fun tk => ⟨.bl b, H, I.tok tk, rfl, q⟩
theorem call_isiTY : CallR X (.builtin "isinstance") (rIsiTY X.K) := by
  intro pins s σ H xs us Q I r h
  obtain ⟨x, tp, cs, t, ws, b, rfl, hT, k, ty, e, q⟩ := h
  cases r with
  | cons r1 r2 =>
    cases r2 with
    | cons r2 r3 =>
      cases r3
      cases r2
      obtain ⟨P, Z, p, hx⟩ := kit_ofY I r1 ty
      obtain ⟨_, its, rv, o, h1, h2, n, h3⟩ := (show ObjOk X.prog X.w H s.heap tp (.tup cs) from I.hok tp _ hT)
      have e3 := ClsV.all k rv
      subst e3
      obtain ⟨oc, od, dt, sl⟩ := o
      simp only at h2 h3
      subst h2 h3
      exact PySem.W.kia_tup Z I.kIn p h1 e hx fun tk => ⟨.bl b, H, I.tok tk, rfl, q⟩
end
theorem tyY_of {K : PySem.W.Frag} {G H : Hp} (e : Same G H) {v : V} {d : D} (h : Rp K G v d) (n : okTy d = true) : TyY K H v (.type (tyD d)) := by
  rcases tyX_of e h n with h | ⟨o, kvs, a, h1, h2, h3⟩
  · exact .inl h
  · exact .inr ⟨o, kvs, a, h1, h2, by rw [h3]⟩
theorem kit_isT (t : Ty) (d : D) (n : okTy d = true) : kitB (tyD d) t.nm = some (isT t d) := by
  cases d <;> first | (cases n; done) | (cases t <;> first | rfl | decide +kernel)
section
variable {X : Cx} {C : Fc} {E : XK} {pos : Pos}
theorem e_isi (t : Ty) {e : Expr} {m : ME} {c : Str} {p p2 : Pos} (h : PE X e (tE C E m)) (hi : X.mg "isinstance" = none) (hm : X.mg c = none) (hv : bootBuiltins c = some (.type t.nm) := by decide +kernel) (hK : C.K = X.K := by rfl) (hgi : Gl X "isinstance" := by rfl) (hg : Gl X c := by rfl)
    (hn : c ≠ "__name__" := by decide) (hd : (c == ("__debug__" : Str)) = false := by decide)
    (hs : starEach [e, .Name c p2] X.env = (false, eval e X.env) :: starEach [.Name c p2] X.env := by rfl) (hs2 : starEach [.Name c p2] X.env = (false, eval (.Name c p2) X.env) :: starEach [] X.env := by rfl) (hpl : (backTo pos (starEach [.Name c p2] X.env)).any (·.1) = false := by rfl) :
    PE X (.Call (.Name "isinstance" p) [e, .Name c p2] [] pos) (tE C E (mUn (gIsi t) m)) := by
  refine PE.imp (pe_callB call_isiY hgi hi (by decide +kernel) (pa_cons h (pa_cons (pe_bltn (v := .ty t.nm) hg hm hv rfl hn hd) pa_nil hs2) hs) (by decide) (by decide) hs hpl) fun σ H Q ⟨r, ad, G, s, k⟩ => ⟨r, ad, G, s, ?_⟩
  unfold mUn at k
  unfold kE at k ⊢
  cases e : m r with
  | bad => simp only [e, bindE] at k
  | exc c fs => simp only [e, bindE] at k; exact k
  | ok d r1 =>
    simp only [e, bindE] at k
    intro v G1 H1 s1 k1 p1
    have ns : okTy d = true := by cases d <;> first | rfl | exact k.elim
    have eg : gIsi t d = some (.bl (isT t d)) := by cases d <;> first | rfl | (cases ns; done)
    rw [eg] at k
    exact ⟨v, .ty t.nm, .type (tyD d), .type t.nm, isT t d, rfl, .ty _, by rw [← hK]; exact tyY_of s1.hst.sub p1 ns, kit_ty (kit_isT t d ns), k _ G1 H1 s1 k1 (.bl _)⟩
theorem e_isiLT {e : Expr} {m : ME} {p p1 p2 p3 : Pos} {kk : Nat} (hi : X.mg "isinstance" = none) (hl : X.mg "list" = none) (ht : X.mg "tuple" = none) (h : PE X e (tE C E m)) (hK : C.K = X.K := by rfl) (hgi : Gl X "isinstance" := by rfl) (hgl : Gl X "list" := by rfl) (hgt : Gl X "tuple" := by rfl)
    (hs : starEach [e, .Tuple [.Name "list" p1, .Name "tuple" p2] kk p3] X.env = (false, eval e X.env) :: starEach [.Tuple [.Name "list" p1, .Name "tuple" p2] kk p3] X.env := by rfl) (hpl : (backTo pos (starEach [.Tuple [.Name "list" p1, .Name "tuple" p2] kk p3] X.env)).any (·.1) = false := by rfl) :
    PE X (.Call (.Name "isinstance" p) [e, .Tuple [.Name "list" p1, .Name "tuple" p2] kk p3] [] pos) (tE C E (mUn gIsiLT m)) := by
  refine PE.imp (pe_callB call_isiTY hgi hi (by decide +kernel) (pa_cons h (pa_cons (pe_tup (pa_cons (pe_bltn (v := .ty "list") hgl hl (by decide +kernel) rfl) (pa_cons (pe_bltn (v := .ty "tuple") hgt ht (by decide +kernel) rfl) pa_nil))) pa_nil) hs) (by decide) (by decide) hs hpl) fun σ H Q ⟨r, ad, G, s, k⟩ => ⟨r, ad, G, s, ?_⟩
  unfold mUn at k
  unfold kE at k ⊢
  cases e : m r with
  | bad => simp only [e, bindE] at k
  | exc c fs => simp only [e, bindE] at k; exact k
  | ok d r1 =>
    simp only [e, bindE] at k
    intro v G1 H1 s1 k1 p1
    have ns : okTy d = true := by cases d <;> first | rfl | exact k.elim
    have eg : gIsiLT d = some (.bl (isT .list d || isT .tuple d)) := by cases d <;> first | rfl | (cases ns; done)
    rw [eg] at k
    refine ⟨by rw [sizeLine_eq]; decide, fun q hq => ?_⟩
    have gr : Grow G1 H1 (upd G1 q (.tup [.ty "list", .ty "tuple"])) (upd H1 q (.tup [.ty "list", .ty "tuple"])) := Grow.lay s1.hst.sub s1.hst.gnt hq (fun _ z => nomatch z)
    refine ⟨v, q, [.ty "list", .ty "tuple"], .type (tyD d), [.type "list", .type "tuple"], isT .list d || isT .tuple d, rfl, upd_same, .cons (.ty _) (.cons (.ty _) .nil), by rw [← hK]; exact tyY_of gr.sub (p1.up gr.g) ns, ?_, k _ _ _ (s1.grow gr) (k1.trans (Kp.grow gr)) (.bl _)⟩
    refine kitAny_cons (kit_ty (kit_isT .list d ns)) (fun hb => ?_) (fun hb => by rw [hb]; rfl)
    rw [hb]
    exact kitAny_cons (kit_ty (kit_isT .tuple d ns)) (fun hb2 => by rw [hb2]; exact kitAny_nil) (fun hb2 => by rw [hb2]; rfl)
/-! ### all, any -/
def blsD : List D → Option (List Bool)
  | [] => some []
  | .bl b :: l => (blsD l).map (b :: ·)
  | _ :: _ => none
theorem bls_rp {K : PySem.W.Frag} {G : Hp} : ∀ {l : List D} {bs : List Bool} {vs : List V}, blsD l = some bs → RpL K G vs l → vs = bs.map V.bl
  | [], bs, vs, e, h => by cases e; cases h; rfl
  | d :: l, bs, vs, e, h => by
    cases h with
    | cons h1 h2 =>
      cases d <;> first | (cases e; done) | skip
      rename_i b
      unfold blsD at e
      cases q : blsD l with
      | none => rw [q] at e; cases e
      | some cs =>
        rw [q] at e
        cases e
        rw [rp_bl h1, bls_rp q h2]
        rfl
def gAll (d : D) : Option D := match d with
  | .lst l => (blsD l).map fun bs => .bl (bs.all id)
  | _ => none
def gAny (d : D) : Option D := match d with
  | .lst l => (blsD l).map fun bs => .bl (bs.any id)
  | _ => none
theorem d_all : CallD C (rAll C.K) (b1 gAll) := callD1 fun G H v d1 d Q s h1 e k => by
  cases d1 <;> first | (cases e; done) | skip
  rename_i l
  unfold gAll at e
  simp only at e
  cases q : blsD l with
  | none => rw [q] at e; cases e
  | some bs =>
    rw [q] at e
    cases e
    cases h1 with
    | lst hs hp =>
      rw [bls_rp q hp] at hs
      exact ⟨_, bs, rfl, SqL.of (s.sub _ _ hs), k _ G H (Grow.refl s) (.bl _)⟩
theorem d_any : CallD C (rAny C.K) (b1 gAny) := callD1 fun G H v d1 d Q s h1 e k => by
  cases d1 <;> first | (cases e; done) | skip
  rename_i l
  unfold gAny at e
  simp only at e
  cases q : blsD l with
  | none => rw [q] at e; cases e
  | some bs =>
    rw [q] at e
    cases e
    cases h1 with
    | lst hs hp =>
      rw [bls_rp q hp] at hs
      exact ⟨_, bs, rfl, SqL.of (s.sub _ _ hs), k _ G H (Grow.refl s) (.bl _)⟩
/-! ### tuple(x), list(x) -/
def gTupOf (d : D) : Option D := match d with
  | .lst l => some (.tup l)
  | .tup l => some (.tup l)
  | _ => none
theorem d_tupOf : CallD C (fun xs H Q => ∃ p ys, xs = [.ref p] ∧ ((SqL C.K H p ys ∧ ∀ l, H l = none → Q (.ref l) (upd H l (.tup ys))) ∨ (SqT C.K H p ys ∧ Q (.ref p) H))) (b1 gTupOf) := callD1 fun G H v d1 d Q s h1 e k => by
  cases d1 <;> first | (cases e; done) | skip
  · cases e
    cases h1 with
    | tup hs hp => exact ⟨_, _, rfl, .inr ⟨SqT.of (s.sub _ _ hs), k _ G H (Grow.refl s) (.tup hs hp)⟩⟩
  · cases e
    cases h1 with
    | lst hs hp =>
      refine ⟨_, _, rfl, .inl ⟨SqL.of (s.sub _ _ hs), fun q hq => ?_⟩⟩
      exact k _ _ _ (Grow.lay s.sub s.gnt hq (fun _ z => nomatch z)) (.tup upd_same (hp.up (same_upd (s.sub.free hq))))
def gLstOf (d : D) : Option D := match d with
  | .lst l => some (.lst l)
  | .tup l => some (.lst l)
  | _ => none
theorem d_lstOf : CallD C (fun xs H Q => ∃ p ys, xs = [.ref p] ∧ (SqL C.K H p ys ∨ SqT C.K H p ys) ∧ ∀ l, H l = none → Q (.ref l) (upd H l (.lst ys))) (b1 gLstOf) := callD1 fun G H v d1 d Q s h1 e k => by
  cases d1 <;> first | (cases e; done) | skip
  · cases e
    cases h1 with
    | tup hs hp =>
      refine ⟨_, _, rfl, .inr (SqT.of (s.sub _ _ hs)), fun q hq => ?_⟩
      exact k _ _ _ (Grow.lay s.sub s.gnt hq (fun _ z => nomatch z)) (.lst upd_same (hp.up (same_upd (s.sub.free hq))))
  · cases e
    cases h1 with
    | lst hs hp =>
      refine ⟨_, _, rfl, .inl (SqL.of (s.sub _ _ hs)), fun q hq => ?_⟩
      exact k _ _ _ (Grow.lay s.sub s.gnt hq (fun _ z => nomatch z)) (.lst upd_same (hp.up (same_upd (s.sub.free hq))))
/-! ### + and * of lists, + of tuples and texts -/
def lAdd (x y : D) : Option D := match x, y with
  | .lst a, .lst b => if a.length + b.length ≤ 16777216 then some (.lst (a ++ b)) else none
  | _, _ => none
theorem d_cat : OpD C rCat lAdd := by
  intro G H v1 v2 d1 d2 d Q s h1 h2 e k
  cases d1 <;> first | (cases e; done) | skip
  cases d2 <;> first | (cases e; done) | skip
  unfold lAdd at e
  simp only at e
  split at e
  · rename_i hl
    cases e
    cases h1 with
    | lst a1 a2 =>
      cases h2 with
      | lst b1 b2 =>
        refine ⟨_, _, _, _, rfl, rfl, s.sub _ _ a1, s.sub _ _ b1, by rw [a2.length, b2.length, sizeLine_eq]; exact hl, fun q hq => ?_⟩
        exact k _ _ _ (Grow.lay s.sub s.gnt hq (fun _ z => nomatch z)) (.lst upd_same ((a2.append b2).up (same_upd (s.sub.free hq))))
  · cases e
theorem rp_rep {K : PySem.W.Frag} {G : Hp} {vs : List V} {l : List D} (h : RpL K G vs l) : ∀ n, RpL K G (List.replicate n vs).flatten (List.replicate n l).flatten
  | 0 => .nil
  | n + 1 => by
    rw [List.replicate_succ, List.replicate_succ, List.flatten_cons, List.flatten_cons]
    exact h.append (rp_rep h n)
def lRep (x y : D) : Option D := match x, y with
  | .lst a, .int n => if -(2 ^ 63) ≤ n ∧ n < 2 ^ 63 ∧ a.length * n.toNat ≤ 16777216 then some (.lst (List.replicate n.toNat a).flatten) else none
  | _, _ => none
theorem d_rep : OpD C rRep lRep := by
  intro G H v1 v2 d1 d2 d Q s h1 h2 e k
  cases d1 <;> first | (cases e; done) | skip
  cases d2 <;> first | (cases e; done) | skip
  rename_i l n
  unfold lRep at e
  simp only at e
  split at e
  · rename_i hl
    cases e
    cases h1 with
    | lst a1 a2 =>
      refine ⟨_, n, _, rfl, rp_int h2, s.sub _ _ a1, hl.1, hl.2.1, by rw [a2.length, sizeLine_eq]; exact hl.2.2, fun q hq => ?_⟩
      exact k _ _ _ (Grow.lay s.sub s.gnt hq (fun _ z => nomatch z)) (.lst upd_same ((rp_rep a2 _).up (same_upd (s.sub.free hq))))
  · cases e
/-! ### in -/
def seqD (d : D) : Option (List D) := match d with
  | .lst l => some l
  | .tup l => some l
  | _ => none
def sIn (x y : D) : Option D := match x, y with
  | .str i, .str j => some (.bl (!(Builtin.Str.occurrences j i 0 j.length 1).isEmpty))
  | _, _ => none
def sNotIn (x y : D) : Option D := match x, y with
  | .str i, .str j => some (.bl (!(!(Builtin.Str.occurrences j i 0 j.length 1).isEmpty)))
  | _, _ => none
theorem d_ins : OpD C (fun x y H Q => ∃ i j, x = .str i ∧ y = .str j ∧ Q (.bl (!(Builtin.Str.occurrences j i 0 j.length 1).isEmpty)) H) sIn := by
  intro G H v1 v2 d1 d2 d Q s h1 h2 e k
  cases d1 <;> first | (cases e; done) | skip
  cases d2 <;> first | (cases e; done) | skip
  cases e
  exact ⟨_, _, rp_str h1, rp_str h2, k _ G H (Grow.refl s) (.bl _)⟩
theorem d_notins : OpD C (fun x y H Q => ∃ i j, x = .str i ∧ y = .str j ∧ Q (.bl (!(!(Builtin.Str.occurrences j i 0 j.length 1).isEmpty))) H) sNotIn := by
  intro G H v1 v2 d1 d2 d Q s h1 h2 e k
  cases d1 <;> first | (cases e; done) | skip
  cases d2 <;> first | (cases e; done) | skip
  cases e
  exact ⟨_, _, rp_str h1, rp_str h2, k _ G H (Grow.refl s) (.bl _)⟩
/-! ### a, b = x, y -/
def sPar2 (i j : Nat) (a : MA) : MS := fun r => match a r with
  | .ok [x, y] r1 => .nx ((r1.set i (.dat x)).set j (.dat y))
  | .exc c fs => .exc c fs
  | _ => .bad
theorem s_par2 {i j : Nat} {x y : Str} {a b : Expr} {m : MA} {px py pt : Pos} {kt k2 pt2} (hN : X.N.Nodup) (ha : PA X [a, b] (tA C E m)) (hi : X.N[i]? = some x := by rfl) (hj : X.N[j]? = some y := by rfl) (hij : i ≠ j := by decide)
    (hx : X.env.scope.names.lookup x = some .local := by rfl) (hy : X.env.scope.names.lookup y = some .local := by rfl) (hc : X.calm = true := by rfl)
    (hw : swappedStores [.Tuple [.Name x px, .Name y py] kt pt] (.Tuple [a, b] k2 pt2) X.env = pure (some [x, y]) := by rfl)
    (hs : swapsWithSole [.Tuple [.Name x px, .Name y py] kt pt] (.Tuple [a, b] k2 pt2) pos.line X.env = pure false := by rfl) :
    PS X (.Assign [.Tuple [.Name x px, .Name y py] kt pt] (.Tuple [a, b] k2 pt2) pos) (tS C E (sPar2 i j m)) := by
  refine PS.imp (ps_par hc hN hi hj hij hx hy ha hw hs) fun Dn σ H ⟨r, ad, G, s, k⟩ => ⟨r, ad, G, s, ?_⟩
  unfold sPar2 at k
  unfold kA
  cases e : m r with
  | bad => simp only [e] at k; exact k.elim
  | exc c fs => simp only [e] at k; exact k
  | ok l r1 =>
    simp only [e] at k
    intro vs G1 H1 s1 k1 p1
    cases p1 with
    | nil => exact k.elim
    | cons p1 p2 =>
      cases p2 with
      | nil => exact k.elim
      | cons p2 p3 =>
        cases p3 with
        | nil => exact ⟨_, _, rfl, k ad _ G1 H1 ((s1.setD p1).setD p2) k1.g⟩
        | cons _ _ => exact k.elim
def sPar3 (i j l : Nat) (a : MA) : MS := fun r => match a r with
  | .ok [x, y, z] r1 => .nx (((r1.set i (.dat x)).set j (.dat y)).set l (.dat z))
  | .exc c fs => .exc c fs
  | _ => .bad
/-! ### range, signs -/
def rngD (lo : Int) (n : Nat) : List D := (List.range n).map fun i => D.int (lo + (i : Nat))
/-- a range's end, small enough (so that the kernel need not count down from 2^62) -/
def rngOk (j : Int) : Bool := match j with
  | .ofNat n => Nat.ble n 4611686018427387903
  | .negSucc n => Nat.ble n 4611686018427387903
theorem rngOk_of {j : Int} (h : rngOk j = true) : -(2 ^ 62) ≤ j ∧ j < 2 ^ 62 := by
  cases j with
  | ofNat n =>
    have h := Nat.le_of_ble_eq_true h
    constructor
    · show _ ≤ ((n : Nat) : Int); omega
    · show ((n : Nat) : Int) < _; omega
  | negSucc n =>
    have h := Nat.le_of_ble_eq_true h
    rw [Int.negSucc_eq]
    constructor <;> omega
def mRng1 (a : MA) : MA := fun r => match a r with
  | .ok [.int j] r1 => if rngOk j then .ok (rngD 0 j.toNat) r1 else .bad
  | .exc c fs => .exc c fs
  | _ => .bad
theorem wk_rng {G : Hp} {lo : Int} {n : Nat} : WkD C G (Itr lo n) (rngD lo n) := by
  refine ⟨?_⟩
  have hl : (rngD lo n).length = n := by unfold rngD; simp
  rw [hl]
  refine Walk.mono walk_range (fun H q => trivial) fun i H x H' hi q y => ?_
  obtain ⟨rfl, rfl⟩ := y
  intro G1 g1 s1 n1
  refine ⟨G1, Grow.refl2 s1 n1, .int (lo + (i : Nat)), ?_, .int _⟩
  unfold rngD
  rw [List.getElem?_map, List.getElem?_range hi]
  rfl
theorem i_rng1 {tg a : Expr} {m : MA} {p : Pos} (hm : X.mg "range" = none) (ha : PA X [a] (tA C E m)) (hg : Gl X "range" := by rfl) (hs : starEach [a] X.env = [(false, eval a X.env)] := by rfl) : PI X tg (.Call (.Name "range" p) [a] [] pos) (tI C E (mRng1 m)) := by
  refine PI.imp (pi_range1 hg hm ha hs) fun σ H R ⟨r, ad, G, s, k⟩ => ⟨r, ad, G, s, ?_⟩
  unfold mRng1 at k
  unfold kA
  unfold kI at k
  cases e : m r with
  | bad => simp only [e] at k
  | exc c fs => simp only [e] at k; exact k
  | ok l r1 =>
    simp only [e] at k
    intro vs G1 H1 s1 k1 p1
    cases p1 with
    | nil => exact k.elim
    | cons p1 p2 =>
      rename_i v vs' d ds
      cases p2 with
      | nil =>
        cases d <;> first | exact k.elim | skip
        rename_i j
        simp only at k
        split at k
        · rename_i heq
          split at heq
          · rename_i hb
            injection heq with q1 q2
            subst q1 q2
            have hb := rngOk_of hb
            exact ⟨j, by rw [rp_int p1], hb.1, hb.2, k _ G1 H1 s1 k1 wk_rng⟩
          · cases heq
        · rename_i heq
          split at heq <;> cases heq
        · exact k.elim
      | cons _ _ =>
        cases d <;> exact k.elim
def signD (z : Str) : List D := z.cps.toList.map fun c => D.str ⟨#[c]⟩
def mSigns (m : ME) : MA := fun r => match m r with
  | .ok (.str z) r1 => .ok (signD z) r1
  | .exc c fs => .exc c fs
  | _ => .bad
theorem wk_str {G : Hp} {z : Str} : WkD C G (Its z) (signD z) := by
  refine ⟨?_⟩
  have hl : (signD z).length = z.cps.size := by unfold signD; simp
  rw [hl]
  refine Walk.mono walk_str (fun H q => trivial) fun i H x H' hi q y => ?_
  obtain ⟨rfl, c, e1, rfl⟩ := y
  intro G1 g1 s1 n1
  refine ⟨G1, Grow.refl2 s1 n1, .str ⟨#[c]⟩, ?_, .str _⟩
  unfold signD
  rw [List.getElem?_map]
  have e2 : z.cps.toList[i]? = some c := by simpa using e1
  rw [e2]
  rfl
theorem i_str {tg e : Expr} {m : ME} (h : PE X e (tE C E m)) : PI X tg e (tI C E (mSigns m)) := by
  refine PI.imp (pi_str h) fun σ H R ⟨r, ad, G, s, k⟩ => ⟨r, ad, G, s, ?_⟩
  unfold mSigns at k
  unfold kI at k
  unfold kE
  cases e : m r with
  | bad => simp only [e] at k
  | exc c fs => simp only [e] at k; exact k
  | ok d r1 =>
    simp only [e] at k
    cases d with
    | str z =>
      intro v G1 H1 s1 k1 p1
      exact ⟨z, rp_str p1, k _ G1 H1 s1 k1 wk_str⟩
    | _ => exact k.elim
end
end DL

/-! in, index, dicts. -/
namespace DL
open PySem PySem.Spec PyProof.Rows L2
/-! ### in a list or tuple, data of any depth -/
def itemsD (d : D) : Option (List D) := match d with
  | .lst l => some l
  | .tup l => some l
  | .cst l => some l
  | _ => none
def gIn (x y : D) : Option D := match itemsD y with
  | some l => if okEq x && okEq y then some (.bl (l.any fun z => eqB z x)) else none
  | none => none
def gNotIn (x y : D) : Option D := match itemsD y with
  | some l => if okEq x && okEq y then some (.bl (!l.any fun z => eqB z x)) else none
  | none => none
theorem toPs_any (l : List D) (x : D) : (toPs l).any (fun z => PyData.eqv z (toP x)) = l.any fun z => eqB z x := by
  induction l with
  | nil => rfl
  | cons d l ih =>
    show (PyData.eqv (toP d) (toP x) || (toPs l).any fun z => PyData.eqv z (toP x)) = (eqB d x || l.any fun z => eqB z x)
    rw [ih]
    rfl
section
variable {X : Cx}
def rInE (K : PySem.W.Frag) (neg : Bool) : R2 := fun x y H Q => ∃ d ds, Dp K H x d ∧ (Dp K H y (.list ds) ∨ Dp K H y (.tuple ds)) ∧ SeqAt.shaped d = true ∧ PyData.canLayAll0 ds = true ∧ Q (.bl (if neg then !ds.any fun z => PyData.eqv z d else ds.any fun z => PyData.eqv z d)) H
theorem room_in2 {A : Around} {ds : List PyData} {d : PyData} (h : SeqAt.shaped d = true) (hu : A.units + 65 < cLine) : A.units + 1 + min (PyData.depthAll ds) d.depth < cLine := by
  have h1 := SeqAt.depth_of_shaped h
  have h2 : min (PyData.depthAll ds) d.depth ≤ d.depth := Nat.min_le_right _ _
  omega
theorem op_inE (hu : X.A.units + 65 < cLine) : OpR X (compareOp .In) (rInE X.K false) := by
  intro pins s σ H x y v u Q I rx ry h
  obtain ⟨d, ds, hd, he, sd, se, q⟩ := h
  obtain ⟨as, r1⟩ := Dp.reads I d x v hd rx
  rcases he with he | he
  · obtain ⟨bs, r2⟩ := Dp.reads I (.list ds) y u he ry
    exact SeqAt.in_list_reads r2 r1 se (SeqAt.canLay_of_shaped sd) (room_in2 sd hu) ⟨.bl _, H, I, rfl, q⟩
  · obtain ⟨bs, r2⟩ := Dp.reads I (.tuple ds) y u he ry
    exact SeqAt.in_tuple_reads r2 r1 se (SeqAt.canLay_of_shaped sd) (room_in2 sd hu) ⟨.bl _, H, I, rfl, q⟩
theorem op_notInE (hu : X.A.units + 65 < cLine) : OpR X (compareOp .NotIn) (rInE X.K true) := by
  intro pins s σ H x y v u Q I rx ry h
  obtain ⟨d, ds, hd, he, sd, se, q⟩ := h
  obtain ⟨as, r1⟩ := Dp.reads I d x v hd rx
  rcases he with he | he
  · obtain ⟨bs, r2⟩ := Dp.reads I (.list ds) y u he ry
    exact SeqAt.notIn_list_reads r2 r1 se (SeqAt.canLay_of_shaped sd) (room_in2 sd hu) ⟨.bl _, H, I, rfl, q⟩
  · obtain ⟨bs, r2⟩ := Dp.reads I (.tuple ds) y u he ry
    exact SeqAt.notIn_tuple_reads r2 r1 se (SeqAt.canLay_of_shaped sd) (room_in2 sd hu) ⟨.bl _, H, I, rfl, q⟩
end
theorem u65 {k : Nat} {A : Around} (r : Room k A) : A.units + 65 < cLine := by have := r.un; omega
section
variable {C : Fc}
theorem items_dp {K : PySem.W.Frag} {G H : Hp} (e : Same G H) {v : V} {d : D} {l : List D} (hi : itemsD d = some l) (o : okEq d = true) (h : Rp K G v d) : (Dp K H v (.list (toPs l)) ∨ Dp K H v (.tuple (toPs l))) ∧ PyData.canLayAll0 (toPs l) = true := by
  have h1 := dp_of e d v (SeqAt.canLay_of_shaped o) h
  have h2 := SeqAt.canLay_of_shaped o
  cases d <;> cases hi
  · exact ⟨.inr h1, by simpa [toP, PyData.canLay0] using h2⟩
  · exact ⟨.inl h1, by simpa [toP, PyData.canLay0] using h2⟩
  · exact ⟨.inr h1, by simpa [toP, PyData.canLay0] using h2⟩
theorem d_in : OpD C (rInE C.K false) gIn := by
  intro G H v1 v2 d1 d2 d Q s h1 h2 e k
  unfold gIn at e
  split at e
  · rename_i l hi
    split at e
    · rename_i ho
      obtain ⟨o1, o2⟩ := Bool.and_eq_true_iff.mp ho
      cases e
      obtain ⟨a, b⟩ := items_dp s.sub hi o2 h2
      refine ⟨toP d1, toPs l, dp_of s.sub d1 v1 (SeqAt.canLay_of_shaped o1) h1, a, o1, b, ?_⟩
      rw [if_neg Bool.false_ne_true, toPs_any]
      exact k _ G H (Grow.refl s) (.bl _)
    · cases e
  · cases e
theorem d_notIn : OpD C (rInE C.K true) gNotIn := by
  intro G H v1 v2 d1 d2 d Q s h1 h2 e k
  unfold gNotIn at e
  split at e
  · rename_i l hi
    split at e
    · rename_i ho
      obtain ⟨o1, o2⟩ := Bool.and_eq_true_iff.mp ho
      cases e
      obtain ⟨a, b⟩ := items_dp s.sub hi o2 h2
      refine ⟨toP d1, toPs l, dp_of s.sub d1 v1 (SeqAt.canLay_of_shaped o1) h1, a, o1, b, ?_⟩
      rw [if_pos rfl, toPs_any]
      exact k _ G H (Grow.refl s) (.bl _)
    · cases e
  · cases e
end
/-! ### x.index(y), x a written tuple of texts or a list -/
def strsD : List D → Option (List Str)
  | [] => some []
  | .str s :: l => (strsD l).map (s :: ·)
  | _ :: _ => none
theorem strs_rp {K : PySem.W.Frag} {G : Hp} : ∀ {l : List D} {bs : List Str} {vs : List V}, strsD l = some bs → RpL K G vs l → vs = bs.map V.str
  | [], bs, vs, e, h => by cases e; cases h; rfl
  | d :: l, bs, vs, e, h => by
    cases h with
    | cons h1 h2 =>
      cases d <;> first | (cases e; done) | skip
      rename_i b
      unfold strsD at e
      cases q : strsD l with
      | none => rw [q] at e; cases e
      | some cs =>
        rw [q] at e
        cases e
        rw [rp_str h1, strs_rp q h2]
        rfl
def gTIndex (x y : D) : Option D := match x, y with
  | .cst l, .str z => (strsD l).bind fun ys => (ys.idxOf? z).map fun j => .int (j : Nat)
  | _, _ => none
def gLIndex (x y : D) : Option D := match x, y with
  | .lst l, .str z => if okEq (.lst l) && okEq (.str z) then (strsD l).bind fun ys => (ys.idxOf? z).map fun j => .int (j : Nat) else none
  | _, _ => none
theorem idx_first {ys : List Str} {z : Str} {j : Nat} (h : ys.idxOf? z = some j) : ys[j]? = some z ∧ ∀ m, m < j → ys[m]? ≠ some z := by
  unfold List.idxOf? at h
  rw [List.findIdx?_eq_some_iff_getElem] at h
  obtain ⟨hj, h1, h2⟩ := h
  refine ⟨?_, fun m hm q => ?_⟩
  · rw [List.getElem?_eq_getElem hj]
    have := beq_iff_eq.mp h1
    rw [this]
  · have := h2 m hm
    obtain ⟨hml, e⟩ := List.getElem?_eq_some_iff.mp q
    rw [e] at this
    simp at this
/-- an argument that raises is not served -/
def noX (m : ME) : ME := fun r => match m r with
  | .exc _ _ => .bad
  | x => x
section
variable {X : Cx} {C : Fc} {E : XK} {pos : Pos}
/-- x.m(e), x of a built-in type T, nothing changed -/
theorem e_bm {T id : String} {name : Str} {q : V → List V → Hp → VK → Prop} {g : D → D → Option D} {o e : Expr} {mo me : ME} {apos cpos : Pos} (pa : PlainAttrs T) (slot : Slot T name id) (hty : typeOf (.builtin id) = pure (.type "method_descriptor")) (hm : MtR X id q)
    (hg : OpD C (fun x y H Q => q x [y] H Q) g) (ht : ∀ G H v x, Same G H → Rp C.K G v x → (∃ y d, g x y = some d) → tyV X.K T v H) (ho : PE X o (tE C E mo)) (he : PE X e (tE C E me))
    (hbase : attributeBase o name X.env (eval o X.env) = eval o X.env := by rfl)
    (hfew : ((backTo cpos (starEach [e] X.env)).all (fun x => !x.1) && (backToKw cpos (keywordEach [] X.env)).all (fun x => x.1.isSome)
      && decide ([e].length + ([] : List Keyword).length + (if ([] : List Keyword).isEmpty then 0 else 1) < 30)) = true := by rfl)
    (hline : (apos.endLine == cpos.line) = true := by rfl) (hs : starEach [e] X.env = (false, eval e X.env) :: starEach [] X.env := by rfl) (hplain : (backTo cpos (starEach [] X.env)).any (·.1) = false := by rfl) :
    PE X (.Call (.Attribute o name apos) [e] [] cpos) (tE C E (mOp g mo (noX me))) := by
  refine PE.imp (pe_bm pa slot hty hm ho (pa_cons he pa_nil hs) hbase hfew hline hs hplain) fun σ H Q ⟨r, ad, G, s, k⟩ => ⟨r, ad, G, s, ?_⟩
  unfold mOp noX at k
  unfold kE at k ⊢
  cases ea : mo r with
  | bad => simp only [ea, bindE] at k
  | exc c fs => simp only [ea, bindE] at k; exact k
  | ok x r1 =>
    simp only [ea, bindE] at k
    intro v G1 H1 s1 k1 p1
    cases eb : me r1 with
    | bad => simp only [eb] at k
    | exc c fs => simp only [eb] at k
    | ok y r2 =>
      simp only [eb] at k
      cases eg : g x y with
      | none => rw [eg] at k; exact k.elim
      | some d =>
        rw [eg] at k
        refine ⟨ht G1 H1 v x s1.hst.sub p1 ⟨y, d, eg⟩, r1, ad, G1, s1, ?_⟩
        unfold kE
        rw [eb]
        intro u G2 H2 s2 k2 p2
        exact hg G2 H2 v u x y d Q s2.hst (p1.up k2.g) p2 eg fun w G3 H3 gr p3 => k w G3 H3 (s2.grow gr) ((k1.trans k2).trans (Kp.grow gr)) p3
theorem d_tindex : OpD C (fun x y H Q => ∃ p, ∃ ys : List Str, ∃ z j, x = .ref p ∧ [y] = [.str z] ∧ SqT C.K H p (ys.map V.str) ∧ ys[j]? = some z ∧ (∀ m, m < j → ys[m]? ≠ some z) ∧ Q (.int (j : Nat)) H) gTIndex := by
  intro G H v1 v2 d1 d2 d Q s h1 h2 e k
  cases d1 <;> first | (cases e; done) | skip
  cases d2 <;> first | (cases e; done) | skip
  rename_i l z
  unfold gTIndex at e
  simp only at e
  cases eq : strsD l with
  | none => rw [eq] at e; cases e
  | some ys =>
    rw [eq] at e
    simp only [Option.bind_some] at e
    cases ej : ys.idxOf? z with
    | none => rw [ej] at e; cases e
    | some j =>
      rw [ej] at e
      cases e
      cases h1 with
      | cst hs hp =>
        obtain ⟨a, b⟩ := idx_first ej
        refine ⟨_, ys, z, j, rfl, by rw [rp_str h2], ?_, a, b, k _ G H (Grow.refl s) (.int _)⟩
        rw [← strs_rp eq hp]
        exact SqT_same s.sub hs
/-- KINDS.index(x), KINDS a tuple of texts of the top -/
theorem e_tix {x : Str} {e : Expr} {me : ME} {p apos cpos : Pos} {l : List D} (h : ∃ a o, X.mg x = some (.ref a) ∧ X.K.lookup a = some o ∧ o.cls = .type "tuple" ∧ o.dict = none ∧ ∀ G, Rp C.K G (.ref a) (.cst l)) (he : PE X e (tE C E me)) (hK : C.K = X.K := by rfl) (hg : Gl X x := by rfl) (hd : (x == ("__debug__" : Str)) = false := by decide)
    (hbase : attributeBase (.Name x p) "index" X.env (eval (.Name x p) X.env) = eval (.Name x p) X.env := by rfl)
    (hfew : ((backTo cpos (starEach [e] X.env)).all (fun x => !x.1) && (backToKw cpos (keywordEach [] X.env)).all (fun x => x.1.isSome)
      && decide ([e].length + ([] : List Keyword).length + (if ([] : List Keyword).isEmpty then 0 else 1) < 30)) = true := by rfl)
    (hline : (apos.endLine == cpos.line) = true := by rfl) (hs : starEach [e] X.env = (false, eval e X.env) :: starEach [] X.env := by rfl) (hplain : (backTo cpos (starEach [] X.env)).any (·.1) = false := by rfl) :
    PE X (.Call (.Attribute (.Name x p) "index" apos) [e] [] cpos) (tE C E (mOp gTIndex (mC (.cst l)) (noX me))) := by
  obtain ⟨a, o, hm, hk, hc, hdd, hr⟩ := h
  have hd2 : OpD C (fun x y H Q => ∃ p, ∃ ys : List Str, ∃ z j, x = .ref p ∧ [y] = [.str z] ∧ SqT X.K H p (ys.map V.str) ∧ ys[j]? = some z ∧ (∀ m, m < j → ys[m]? ≠ some z) ∧ Q (.int (j : Nat)) H) gTIndex := by
    have := d_tindex (C := C)
    rw [hK] at this
    exact this
  refine PE.imp (pe_bm PySem.F.plainAttrs_tuple PySem.F.slot_tuple_index PySem.F.type_tuple_index mt_tup_index (pe_glob (v := .ref a) hg hm rfl hd) (pa_cons he pa_nil hs) hbase hfew hline hs hplain) fun σ H Q ⟨r, ad, G, s, k⟩ => ?_
  unfold mOp noX mC at k
  unfold kE at k
  simp only [bindE] at k
  refine ⟨.inr (.inl ⟨rfl, o, hk, hc, hdd⟩), r, ad, G, s, ?_⟩
  unfold kE
  cases eb : me r with
  | bad => simp only [eb] at k
  | exc c fs => simp only [eb] at k
  | ok y r2 =>
    simp only [eb] at k
    intro u G2 H2 s2 k2 p2
    cases eg : gTIndex (.cst l) y with
    | none => rw [eg] at k; exact k.elim
    | some d =>
      rw [eg] at k
      exact hd2 G2 H2 (.ref a) u (.cst l) y d Q s2.hst (hr G2) p2 eg fun w G3 H3 gr p3 => k w G3 H3 (s2.grow gr) (k2.trans (Kp.grow gr)) p3
theorem eqv_str (a b : Str) : PyData.eqv (.str a) (.str b) = (a == b) := by simp [PyData.eqv]
theorem strs_toPs : ∀ {l : List D} {ys : List Str}, strsD l = some ys → toPs l = ys.map PyData.str
  | [], ys, e => by cases e; rfl
  | d :: l, ys, e => by
    cases d <;> first | (cases e; done) | skip
    unfold strsD at e
    cases q : strsD l with
    | none => rw [q] at e; cases e
    | some cs =>
      rw [q] at e
      cases e
      show PyData.str _ :: toPs l = _
      rw [strs_toPs q]
      rfl
theorem d_lindex : OpD C (fun x y H Q => rIndexD C.K x [y] H Q) gLIndex := by
  intro G H v1 v2 d1 d2 d Q s h1 h2 e k
  cases d1 <;> first | (cases e; done) | skip
  cases d2 <;> first | (cases e; done) | skip
  rename_i l z
  unfold gLIndex at e
  simp only at e
  have ho : (okEq (.lst l) && okEq (.str z)) = true := by
    cases q : (okEq (.lst l) && okEq (.str z)) with
    | true => rfl
    | false => rw [q] at e; cases e
  rw [if_pos ho] at e
  obtain ⟨o1, o2⟩ := Bool.and_eq_true_iff.mp ho
  cases eq : strsD l with
  | none => rw [eq] at e; cases e
  | some ys =>
    rw [eq] at e
    simp only [Option.bind_some] at e
    cases ej : ys.idxOf? z with
    | none => rw [ej] at e; cases e
    | some j =>
      rw [ej] at e
      cases e
      have sl : SeqAt.shaped (.list (ys.map PyData.str)) = true := by
        rw [← strs_toPs eq]; exact o1
      cases h1 with
      | lst hs hp =>
        obtain ⟨a, b⟩ := idx_first ej
        refine ⟨_, v2, .str z, ys.map PyData.str, j, .str z, rfl, rfl, ?_, by rw [rp_str h2]; exact .str z, sl, o2, by rw [List.getElem?_map, a]; rfl, by rw [eqv_str]; simp, fun m z' hm hz => ?_, k _ G H (Grow.refl s) (.int _)⟩
        · rw [← strs_toPs eq]
          refine .lst (SqL.of (s.sub _ _ hs)) (dps_of s.sub l _ ?_ hp)
          simpa [toP, PyData.canLay0] using SeqAt.canLay_of_shaped o1
        · rw [List.getElem?_map] at hz
          cases ey : ys[m]? with
          | none => rw [ey] at hz; cases hz
          | some y =>
            rw [ey] at hz
            cases hz
            rw [eqv_str]
            cases hb : (y == z) with
            | false => rfl
            | true => exact absurd (by rw [ey, beq_iff_eq.mp hb]) (b m hm)
theorem ty_lst {G H : Hp} {v : V} {x : D} (e : Same G H) (h : Rp C.K G v x) (hx : ∃ y d, gLIndex x y = some d) : tyV X.K "list" v H := by
  obtain ⟨y, d, hx⟩ := hx
  cases x <;> first | (cases hx; done) | skip
  cases h with
  | lst hs _ => exact .inl ⟨rfl, _, SqL.of (e _ _ hs)⟩
end
end DL

/-! Dicts. -/
namespace DL
open PySem PySem.Spec PyProof.Rows L2
def kD (d : D) : Option Key := match d with
  | .int i => some (.inl i)
  | .str s => some (.inr s)
  | _ => none
def ksD : List D → Option (List Key)
  | [] => some []
  | d :: l => (kD d).bind fun k => (ksD l).map (k :: ·)
/-- a tuple of ints and texts, as a key -/
def tkD (d : D) : Option (List Key) := match d with
  | .tup l => ksD l
  | _ => none
theorem kD_key (k : Key) : kD (keyD k) = some k := by cases k <;> rfl
theorem ksD_keys : ∀ ks : List Key, ksD (ks.map keyD) = some ks
  | [] => rfl
  | k :: ks => by
    show (kD (keyD k)).bind (fun k => (ksD (ks.map keyD)).map (k :: ·)) = _
    rw [kD_key, ksD_keys ks]
    rfl
theorem kD_rp {K : PySem.W.Frag} {G : Hp} {d : D} {k : Key} {v : V} (e : kD d = some k) (h : Rp K G v d) : v = kV k ∧ d = keyD k := by
  cases d <;> first | (cases e; done) | skip
  · cases e; exact ⟨rp_int h, rfl⟩
  · cases e; exact ⟨rp_str h, rfl⟩
theorem ksD_rp {K : PySem.W.Frag} {G : Hp} : ∀ {l : List D} {ks : List Key} {vs : List V}, ksD l = some ks → RpL K G vs l → vs = ks.map kV ∧ l = ks.map keyD
  | [], ks, vs, e, h => by cases e; cases h; exact ⟨rfl, rfl⟩
  | d :: l, ks, vs, e, h => by
    cases h with
    | cons h1 h2 =>
      unfold ksD at e
      cases q1 : kD d with
      | none => rw [q1] at e; cases e
      | some k =>
        rw [q1] at e
        simp only [Option.bind_some] at e
        cases q2 : ksD l with
        | none => rw [q2] at e; cases e
        | some ks' =>
          rw [q2] at e
          cases e
          obtain ⟨a, b⟩ := kD_rp q1 h1
          obtain ⟨c, d'⟩ := ksD_rp q2 h2
          exact ⟨by rw [a, c]; rfl, by rw [b, d']; rfl⟩
def dLook (f : D → Bool) (es : List (D × D)) : Option D := (es.find? fun e => f e.1).map (·.2)
def dPut (f : D → Bool) (kd : D) (es : List (D × D)) (d : D) : List (D × D) :=
  if es.any (fun e => f e.1) then es.map (fun e => if f e.1 then (e.1, d) else e) else es ++ [(kd, d)]
def isTK (ks : List Key) (d : D) : Bool := decide (tkD d = some ks)
theorem isTK_key (ks ks' : List Key) : isTK ks (.tup (ks'.map keyD)) = decide (ks' = ks) := by
  unfold isTK
  show decide (ksD (ks'.map keyD) = some ks) = _
  rw [ksD_keys]
  by_cases h : ks' = ks
  · rw [h]; simp
  · rw [decide_eq_false h, decide_eq_false (fun q => h (Option.some.inj q))]
theorem look_T {K : PySem.W.Frag} {G : Hp} {ks : List Key} : ∀ {es : List (D × D)} {kvs : List (List Key × V)}, RpT K G kvs es →
    (dLook (isTK ks) es = none ∧ valV kvs ks = none) ∨ ∃ d v, dLook (isTK ks) es = some d ∧ valV kvs ks = some v ∧ Rp K G v d
  | _, _, .nil => .inl ⟨rfl, rfl⟩
  | _, _, .cons (ks := ks') (v := v) (d := d) (r := rr) h1 h2 => by
    unfold dLook
    rw [List.find?_cons]
    simp only [isTK_key]
    by_cases h : ks' = ks
    · rw [decide_eq_true h]
      exact .inr ⟨d, v, rfl, valV_pos h, h1⟩
    · rw [decide_eq_false h]
      have q : valV ((ks', v) :: rr) ks = valV rr ks := by
        unfold valV
        rw [List.find?_cons]
        simp [h]
      rw [q]
      exact look_T h2
theorem any_T {K : PySem.W.Frag} {G : Hp} {ks : List Key} : ∀ {es : List (D × D)} {kvs : List (List Key × V)}, RpT K G kvs es → es.any (fun e => isTK ks e.1) = kvs.any fun kv => decide (kv.1 = ks)
  | _, _, .nil => rfl
  | _, _, .cons _ h2 => by
    rw [List.any_cons, List.any_cons, any_T h2, isTK_key]
theorem map_T {K : PySem.W.Frag} {G : Hp} {ks : List Key} {v : V} {d : D} (h : Rp K G v d) : ∀ {es : List (D × D)} {kvs : List (List Key × V)}, RpT K G kvs es → RpT K G (kvs.map fun kv => if kv.1 = ks then (kv.1, v) else kv) (es.map fun e => if isTK ks e.1 then (e.1, d) else e)
  | _, _, .nil => .nil
  | _, _, .cons (ks := ks') h1 h2 => by
    rw [List.map_cons, List.map_cons]
    simp only [isTK_key]
    by_cases q : ks' = ks
    · rw [if_pos q, if_pos (decide_eq_true q)]
      exact .cons h (map_T h h2)
    · rw [if_neg q, if_neg (by rw [decide_eq_false q]; exact Bool.false_ne_true)]
      exact .cons h1 (map_T h h2)
theorem RpT.snoc {K : PySem.W.Frag} {G : Hp} {ks : List Key} {v : V} {d : D} (h : Rp K G v d) : ∀ {es : List (D × D)} {kvs : List (List Key × V)}, RpT K G kvs es → RpT K G (kvs ++ [(ks, v)]) (es ++ [(.tup (ks.map keyD), d)])
  | _, _, .nil => .cons h .nil
  | _, _, .cons h1 h2 => .cons h1 (h2.snoc h)
theorem put_T {K : PySem.W.Frag} {G : Hp} {ks : List Key} {v : V} {d : D} (h : Rp K G v d) {es : List (D × D)} {kvs : List (List Key × V)} (p : RpT K G kvs es) : RpT K G (putK kvs ks v) (dPut (isTK ks) (.tup (ks.map keyD)) es d) := by
  unfold putK dPut
  rw [any_T p]
  split
  · exact map_T h p
  · exact p.snoc h
theorem RpT.length {K : PySem.W.Frag} {G : Hp} : ∀ {es : List (D × D)} {kvs : List (List Key × V)}, RpT K G kvs es → kvs.length = es.length
  | _, _, .nil => rfl
  | _, _, .cons _ h => congrArg (· + 1) h.length
/-- what a still or own dict of tuple keys gives -/
theorem dget_T {K : PySem.W.Frag} {G H : Hp} {a : Addr} {kvs : List (List Key × V)} {es : List (D × D)} {l : List D} {ks : List Key} {u : V} (sub : Same G H) (e : Rd H a (.dT kvs)) (p : RpT K G kvs es) (hk : ksD l = some ks) (hu : Rp K G u (.tup l)) :
    ∃ o, DGet H a u o ∧ ((dLook (isTK ks) es = none ∧ o = none) ∨ ∃ d v, dLook (isTK ks) es = some d ∧ o = some v ∧ Rp K G v d) := by
  cases hu with
  | tup hs hl =>
    obtain ⟨q1, q2⟩ := ksD_rp hk hl
    refine ⟨valV kvs ks, .inr ⟨kvs, ks, _, e, rfl, by rw [sub _ _ hs, q1], rfl⟩, ?_⟩
    rcases look_T (ks := ks) p with h | h
    · exact .inl h
    · obtain ⟨d, v, h1, h2, h3⟩ := h
      exact .inr ⟨d, v, h1, h2, h3⟩
section
variable {X : Cx} {C : Fc} {E : XK} {pos : Pos}
/-! ### x = {} -/
def sNewDT (i : Nat) : MS := fun r => .nx (r.set i (.ownD true []))
theorem s_newDT {i : Nat} {x : Str} {pos' p : Pos} (hN : X.N.Nodup) (hi : X.N[i]? = some x := by rfl) (hx : Loc X.env.scope x := by first | exact Or.inl rfl | exact Or.inr rfl)
    (hs : swapsWith (.Dict [] [] p) (some (.Name x pos')) pos.line X.env = pure false := by rfl) (hf : X.fn x = true ∨ X.env.scope.names.lookup x = some .local := by first | exact .inl rfl | exact .inr rfl | assumption) :
    PS X (.Assign [.Name x pos'] (.Dict [] [] p) pos) (tS C E (sNewDT i)) := by
  refine PS.imp (ps_set hN hi hx pe_dnewT hs hf) fun Dn σ H ⟨r, ad, G, s, k⟩ => ?_
  intro q hq
  have gr : Grow G H G (upd H q (.dT [])) := Grow.layH s.hst.sub s.hst.gnt hq
  have s1 := s.grow gr
  have np : ∀ j, isOwn r j → ad j ≠ q := fun j hj z => s.own_ne hj (by rw [z]; exact hq)
  exact k _ _ G _ (s1.setN np (s.hst.sub.free hq) (new_H0 s hq) (.inr ⟨true, [], rfl, .inr ⟨rfl, [], upd_same, .nil⟩⟩)) (Same.refl _)
/-! ### x[k] = e -/
def sDPut (i : Nat) (mk mv : ME) : MS := fun r => match mv r with
  | .ok d r1 => (match r1[i]? with
    | some (.ownD _ _) => (match mk r1 with
      | .ok (.tup l) r2 => (match r2[i]?, ksD l with
        | some (.ownD true es), some ks => if es.length < 16777216 then .nx (r2.set i (.ownD true (dPut (isTK ks) (.tup l) es d))) else .bad
        | _, _ => .bad)
      | .exc c fs => .exc c fs
      | _ => .bad)
    | _ => .bad)
  | .exc c fs => .exc c fs
  | .bad => .bad
theorem s_dput {i : Nat} {x : Str} {ei e : Expr} {mi m : ME} {p p2 : Pos} (hu : X.A.units + 1 < cLine) (hi : PE X ei (tE C E mi)) (he : PE X e (tE C E m)) (hN : X.N[i]? = some x := by rfl) (hv : Vis X.env.scope x := by first | exact Or.inl rfl | exact Or.inr (Or.inl rfl) | exact Or.inr (Or.inr rfl))
    (hd : (x == ("__debug__" : Str)) = false := by decide) (hcd : (x == ("__classdict__" : Str)) = false := by decide)
    (hs : swapsWith e (some (.Subscript (.Name x p) ei p2)) pos.line X.env = pure false := by rfl) :
    PS X (.Assign [.Subscript (.Name x p) ei p2] e pos) (tS C E (sDPut i mi m)) := by
  refine PS.imp (ps_dput hu (pe_var hN hv hd hcd) hi he hs) fun Dn σ H ⟨r, ad, G, s, k⟩ => ⟨r, ad, G, s, ?_⟩
  unfold sDPut at k
  unfold kE
  cases em : m r with
  | bad => simp only [em] at k; exact k.elim
  | exc c fs => simp only [em] at k; exact k
  | ok d r1 =>
    simp only [em] at k
    intro v G1 H1 s1 k1 p1
    split at k
    · rename_i t0 l0 e0
      obtain ⟨z1, _⟩ := s1.ownD i t0 l0 e0
      refine ⟨_, z1, r1, ad, G1, s1, ?_⟩
      unfold kE
      cases ei : mi r1 with
      | bad => simp only [ei] at k; exact k.elim
      | exc c fs => simp only [ei] at k; exact k
      | ok dk r2 =>
        simp only [ei] at k
        cases dk with
        | tup l =>
          intro vk G2 H2 s2 k2 p2
          simp only at k
          split at k
          · rename_i es ks er ek
            split at k
            · rename_i hlen
              obtain ⟨y1, y2, y3, y4⟩ := s2.ownD i true es er
              rcases y4 with ⟨z, _⟩ | ⟨_, kvs, y4, y5⟩
              · cases z
              · cases p2 with
                | tup hs hl =>
                  obtain ⟨q1, q2⟩ := ksD_rp ek hl
                  refine ⟨_, _, rfl, DPut.t (k := ks) y4 (by rw [← q1]; exact s2.hst.sub _ _ hs) (by rw [y5.length, sizeLine_eq]; exact hlen), ?_⟩
                  rw [q2] at k
                  exact k ad σ G2 _ (s2.putDi er (.inr ⟨rfl, _, upd_same, put_T (p1.up k2.g) y5⟩)) (k1.g.trans k2.g)
            · exact k.elim
          · exact k.elim
        | _ => exact k.elim
    · exact k.elim
/-! ### x.get(k, d) of an own dict -/
def mDGet2 (i : Nat) (mk md : ME) : ME := fun r => match r[i]? with
  | some (.ownD true _) => (match mk r with
    | .ok (.tup l) r1 => (match r1[i]? with
      | some (.ownD true _) => (match md r1 with
        | .ok z r2 => (match r2[i]?, ksD l with
          | some (.ownD true es), some ks => .ok ((dLook (isTK ks) es).getD z) r2
          | _, _ => .bad)
        | .exc c fs => .exc c fs
        | .bad => .bad)
      | _ => .bad)
    | .exc c fs => .exc c fs
    | _ => .bad)
  | _ => .bad
theorem e_dget2 {i : Nat} {x : Str} {e f : Expr} {mk md : ME} {p apos cpos : Pos} (hu : X.A.units + 1 < cLine) (he : PE X e (tE C E mk)) (hf : PE X f (tE C E md)) (hN : X.N[i]? = some x := by rfl) (hv : Vis X.env.scope x := by first | exact Or.inl rfl | exact Or.inr (Or.inl rfl) | exact Or.inr (Or.inr rfl))
    (hd : (x == ("__debug__" : Str)) = false := by decide) (hcd : (x == ("__classdict__" : Str)) = false := by decide) (m2 : M2 X (.Name x p) "get" apos e f cpos := by exact ⟨rfl, rfl, rfl, rfl⟩) :
    PE X (.Call (.Attribute (.Name x p) "get" apos) [e, f] [] cpos) (tE C E (mDGet2 i mk md)) := by
  refine PE.imp (pe_dget2 hu (pe_var hN hv hd hcd) he hf m2) fun σ H Q ⟨r, ad, G, s, k⟩ => ?_
  unfold mDGet2 at k
  split at k
  · rename_i es0 e0
    obtain ⟨z1, _, _, z4⟩ := s.ownD i true es0 e0
    have isd : IsD H (ad i) := by
      rcases z4 with ⟨_, _, z, _⟩ | ⟨_, _, z, _⟩
      · exact .inl ⟨_, .inl z⟩
      · exact .inr ⟨_, .inl z⟩
    refine ⟨_, z1, _, rfl, isd, r, ad, G, s, ?_⟩
    unfold kE at k ⊢
    cases em : mk r with
    | bad => simp only [em] at k
    | exc c fs => simp only [em] at k; exact k
    | ok dk r1 =>
      simp only [em] at k
      cases dk with
      | tup l =>
        intro vk G1 H1 s1 k1 p1
        simp only at k
        cases er1 : r1[i]? with
        | none => simp only [er1] at k
        | some q1 =>
          simp only [er1] at k
          cases q1 with
          | ownD t1 es1 =>
            cases t1 with
            | false => exact k.elim
            | true =>
              simp only at k
              refine ⟨r1, ad, G1, s1, ?_⟩
              unfold kE
              cases ed : md r1 with
              | bad => simp only [ed] at k
              | exc c fs => simp only [ed] at k; exact k
              | ok z r2 =>
                simp only [ed] at k
                intro vz G2 H2 s2 k2 p2
                cases er2 : r2[i]? with
                | none => simp only [er2] at k
                | some q2 =>
                  simp only [er2] at k
                  cases q2 with
                  | ownD t2 es =>
                    cases t2 with
                    | false => exact k.elim
                    | true =>
                      cases ek : ksD l with
                      | none => simp only [ek] at k
                      | some ks =>
                        simp only [ek] at k
                        obtain ⟨y1, y2, y3, y4⟩ := s2.ownD i true es er2
                        rcases y4 with ⟨zz, _⟩ | ⟨_, kvs, y4, y5⟩
                        · cases zz
                        · obtain ⟨o, g1, g2⟩ := dget_T s2.hst.sub (.inl y4) y5 ek (p1.up k2.g)
                          refine ⟨o, g1, ?_⟩
                          rcases g2 with ⟨g2, rfl⟩ | ⟨d, v, g2, rfl, g3⟩
                          · rw [g2] at k
                            exact k vz G2 H2 s2 (k1.trans k2) p2
                          · rw [g2] at k
                            exact k v G2 H2 s2 (k1.trans k2) g3
                  | _ => exact k.elim
          | _ => exact k.elim
      | _ => exact k.elim
  · exact k.elim
/-! ### an own dict lies still from now on -/
def sFrzD (i : Nat) (a : MS) : MS := fun r => match r[i]? with
  | some (.ownD t es) => a (r.set i (.dat (.dct t es)))
  | _ => .bad
theorem s_frzd {st : Stmt} {a : MS} (i : Nat) (h : PS X st (tS C E a)) : PS X st (tS C E (sFrzD i a)) := by
  refine ⟨fun pins s σ H Dn I hw => ?_⟩
  obtain ⟨r, ad, G, st, k⟩ := hw
  unfold sFrzD at k
  split at k
  · rename_i t es e
    obtain ⟨h1, h2, h3, h4⟩ := st.ownD i t es e
    have mk : ∃ u, H (ad i) = some u ∧ Mut (some u) ∧ (∀ ps, u ≠ .tbl ps) ∧ (∀ c q, u ≠ LamX.CodeO c q) ∧ ∀ od G', Same G G' → G' (ad i) = some (.frz od u) → Rp C.K G' (.ref (ad i)) (.dct t es) := by
      rcases h4 with ⟨rfl, kvs, q, p⟩ | ⟨rfl, kvs, q, p⟩
      · exact ⟨_, q, trivial, (fun ps z => by cases z), (fun c q z => by cases z), fun od G' g e' => Rp.dK e' (RpK.mono g _ _ p)⟩
      · exact ⟨_, q, trivial, (fun ps z => by cases z), (fun c q z => by cases z), fun od G' g e' => Rp.dT e' (RpT.mono g _ _ p)⟩
    obtain ⟨u, hu, mu, nt, nc, hr⟩ := mk
    obtain ⟨od, I1⟩ := I.lock hu mu
    refine h.run pins s σ _ Dn I1 ?_
    have np : ∀ j, isOwn (r.set i .un) j → ad j ≠ ad i := fun j hj z => (own_set_un hj).1 (st.inj j i (own_set_un hj).2 (.inr (.inl ⟨t, es, e⟩)) z)
    have q : σ.set i (some (V.ref (ad i))) = σ := by
      apply List.ext_getElem?
      intro j
      by_cases hj : j = i
      · rw [hj, set_at (lt_of_get h1), h1]
      · rw [set_no hj]
    have u0 : Stt C (r.set i .un) ad σ G H := by
      have z := st.setU (i := i) (v := some (V.ref (ad i)))
      rw [q] at z
      exact z
    -- the heap with the locked dict
    have hst1 : Hst C G (upd H (ad i) (.frz od u)) := u0.hst.put h3 (.inl h2) (ne_of_some hu) (fun ps z => by rw [hu] at z; exact nt ps (Option.some.inj z)) (fun c q z => by rw [hu] at z; exact nc c q (Option.some.inj z))
    have u1 : Stt C (r.set i .un) ad σ G (upd H (ad i) (.frz od u)) := by
      refine ⟨hst1, u0.len, u0.dat, fun j kk l e' => ?_, fun j t' l e' => ?_, fun j cc l e' => ?_, u0.inj⟩
      · obtain ⟨a1, a2, a3, ys, a4, a5⟩ := u0.own j kk l e'
        exact ⟨a1, a2, a3, ys, by rw [upd_ne (np j (.inl ⟨kk, l, e'⟩))]; exact a4, a5⟩
      · obtain ⟨a1, a2, a3, a4⟩ := u0.ownD j t' l e'
        exact ⟨a1, a2, a3, a4.up (Same.refl _) (upd_ne (np j (.inr (.inl ⟨t', l, e'⟩))))⟩
      · obtain ⟨a1, a2, a3, a4⟩ := u0.ownI j cc l e'
        refine ⟨a1, a2, a3, a4.up (Same.refl _) (fun b w z y => ?_) fun _ _ z => z⟩
        rw [upd_ne]
        · exact z
        · rcases y with y | y
          · rw [y]; exact np j (.inr (.inr ⟨cc, l, e'⟩))
          · intro y'
            rw [y', hu, y] at z
            rw [Option.some.inj z] at mu
            exact mu.elim
    have u2 := u1.still h3 h2 upd_same (fun _ z => nomatch z) np
    have u3 := u2.setD (i := i) (v := .ref (ad i)) (d := .dct t es) (hr od _ (same_upd h3) upd_same)
    rw [q, List.set_set] at u3
    exact ⟨_, ad, _, u3, kS_up k (same_upd h3)⟩
  · exact k.elim
/-! ### d[k] of a still dict -/
def gDIx (x y : D) : Option D := match x, y with
  | .dct _ es, .tup l => (ksD l).bind fun ks => dLook (isTK ks) es
  | _, _ => none
theorem e_dix {o ei : Expr} {mo mi : ME} (hu : X.A.units + 1 < cLine) (ho : PE X o (tE C E mo)) (hi : PE X ei (tE C E mi)) (hs : NoSl ei := by exact fun _ _ => rfl) : PE X (.Subscript o ei pos) (tE C E (mOp gDIx mo mi)) := by
  refine PE.imp (pe_dget hu ho hi hs) fun σ H Q ⟨r, ad, G, s, k⟩ => ⟨r, ad, G, s, ?_⟩
  unfold mOp at k
  unfold kE at k ⊢
  cases ea : mo r with
  | bad => simp only [ea, bindE] at k
  | exc c fs => simp only [ea, bindE] at k; exact k
  | ok x r1 =>
    simp only [ea, bindE] at k
    intro v G1 H1 s1 k1 p1
    refine ⟨r1, ad, G1, s1, ?_⟩
    unfold kE
    cases eb : mi r1 with
    | bad => simp only [eb] at k
    | exc c fs => simp only [eb] at k; exact k
    | ok y r2 =>
      simp only [eb] at k
      intro u G2 H2 s2 k2 p2
      cases eg : gDIx x y with
      | none => rw [eg] at k; exact k.elim
      | some d =>
        rw [eg] at k
        cases x <;> first | (cases eg; done) | skip
        cases y <;> first | (cases eg; done) | skip
        rename_i es l
        unfold gDIx at eg
        simp only at eg
        cases ek : ksD l with
        | none => rw [ek] at eg; cases eg
        | some ks =>
          rw [ek] at eg
          simp only [Option.bind_some] at eg
          have px := p1.up k2.g
          cases px with
          | dT h1 h2 =>
            obtain ⟨ov, g1, g2⟩ := dget_T s2.hst.sub (.inr ⟨_, s2.hst.sub _ _ h1⟩) h2 ek p2
            rcases g2 with ⟨g2, _⟩ | ⟨d', w, g2, rfl, g3⟩
            · rw [g2] at eg; cases eg
            · rw [g2] at eg
              cases eg
              exact ⟨_, w, rfl, g1, k w G2 H2 s2 (k1.trans k2) g3⟩
          | dK h1 h2 =>
            -- a dict of single keys holds no tuple
            exfalso
            have : ∀ {kvs : List (Key × V)} {es : List (D × D)}, RpK C.K G2 kvs es → dLook (isTK ks) es = none := by
              intro kvs es hh
              induction es generalizing kvs with
              | nil => rfl
              | cons e es ih =>
                cases hh with
                | cons a b =>
                  unfold dLook
                  rw [List.find?_cons]
                  have z : ∀ kk : Key, isTK ks (keyD kk) = false := fun kk => by cases kk <;> exact decide_eq_false (fun q => nomatch q)
                  simp only [z]
                  exact ih b
            rw [this h2] at eg
            cases eg
/-! ### for k in d -/
def mKeys (m : ME) : MA := fun r => match m r with
  | .ok (.dct _ es) r1 => .ok (es.map (·.1)) r1
  | .exc c fs => .exc c fs
  | _ => .bad
theorem RpT.get {K : PySem.W.Frag} {G : Hp} : ∀ {es : List (D × D)} {kvs : List (List Key × V)} {i : Nat} {ks : List Key} {v : V}, RpT K G kvs es → kvs[i]? = some (ks, v) → ∃ d, es[i]? = some (.tup (ks.map keyD), d)
  | _, _, _, _, _, .nil, h => by simp at h
  | _, _, 0, ks, v, .cons h1 h2, h => by simp at h; obtain ⟨rfl, rfl⟩ := h; exact ⟨_, rfl⟩
  | _, _, i + 1, ks, v, .cons h1 h2, h => by
    obtain ⟨d, e⟩ := h2.get (i := i) (by simpa using h)
    exact ⟨d, by simpa using e⟩
theorem RpK.get {K : PySem.W.Frag} {G : Hp} : ∀ {es : List (D × D)} {kvs : List (Key × V)} {i : Nat} {ks : Key} {v : V}, RpK K G kvs es → kvs[i]? = some (ks, v) → ∃ d, es[i]? = some (keyD ks, d)
  | _, _, _, _, _, .nil, h => by simp at h
  | _, _, 0, ks, v, .cons h1 h2, h => by simp at h; obtain ⟨rfl, rfl⟩ := h; exact ⟨_, rfl⟩
  | _, _, i + 1, ks, v, .cons h1 h2, h => by
    obtain ⟨d, e⟩ := h2.get (i := i) (by simpa using h)
    exact ⟨d, by simpa using e⟩
theorem RpK.length {K : PySem.W.Frag} {G : Hp} : ∀ {es : List (D × D)} {kvs : List (Key × V)}, RpK K G kvs es → kvs.length = es.length
  | _, _, .nil => rfl
  | _, _, .cons _ h => congrArg (· + 1) h.length
theorem rpL_keys {K : PySem.W.Frag} {G : Hp} : ∀ ks : List Key, RpL K G (ks.map kV) (ks.map keyD)
  | [] => .nil
  | k :: ks => .cons (by cases k with
    | inl i => exact .int i
    | inr s => exact .str s) (rpL_keys ks)
/-- any tuple may be taken as still -/
theorem Grow.tup {G H : Hp} {q : Addr} {xs : List V} (sub : Same G H) (gnt : ∀ b ps, G b ≠ some (.tbl ps)) (h : H q = some (.tup xs)) : ∃ G2, Grow G H G2 H ∧ G2 q = some (.tup xs) := by
  cases e : G q with
  | some o =>
    have := sub q o e
    rw [h] at this
    cases this
    exact ⟨G, Grow.refl2 sub gnt, e⟩
  | none =>
    refine ⟨upd G q (.tup xs), ⟨same_upd e, Same.refl _, fun b u z => ?_, fun b ps z => ?_, fun b n z => ?_⟩, upd_same⟩
    · by_cases hb : b = q
      · rw [hb, upd_same] at z; cases z; rw [hb]; exact h
      · rw [upd_ne hb] at z; exact sub b u z
    · by_cases hb : b = q
      · rw [hb, upd_same] at z; cases z
      · rw [upd_ne hb] at z; exact gnt b ps z
    · have hb : b ≠ q := fun hb => by rw [hb, h] at n; exact n
      rw [upd_ne hb]; exact z
theorem wk_keysT {G : Hp} {a : Addr} {o : Obj} {kvs : List (List Key × V)} {es : List (D × D)} (h : G a = some (.frz o (.dT kvs))) (p : RpT C.K G kvs es) : WkD C G (Itkt a o kvs) (es.map (·.1)) := by
  refine ⟨?_⟩
  rw [List.length_map, ← p.length]
  refine Walk.mono walk_keysT (fun H q => q _ _ h) fun i H x H' hi q y => ?_
  obtain ⟨rfl, ks, v, b, e1, rfl, e2⟩ := y
  intro G1 g1 s1 n1
  obtain ⟨G2, gr, e3⟩ := Grow.tup s1 n1 e2
  obtain ⟨d, e4⟩ := p.get e1
  refine ⟨G2, gr, .tup (ks.map keyD), ?_, .tup e3 (rpL_keys ks)⟩
  rw [List.getElem?_map, e4]
  rfl
theorem wk_keysK {G : Hp} {a : Addr} {o : Obj} {kvs : List (Key × V)} {es : List (D × D)} (h : G a = some (.frz o (.dK kvs))) (p : RpK C.K G kvs es) : WkD C G (Itk a o kvs) (es.map (·.1)) := by
  refine ⟨?_⟩
  rw [List.length_map, ← p.length]
  refine Walk.mono walk_keys (fun H q => q _ _ h) fun i H x H' hi q y => ?_
  obtain ⟨rfl, k, v, e1, rfl⟩ := y
  intro G1 g1 s1 n1
  obtain ⟨d, e4⟩ := p.get e1
  refine ⟨G1, Grow.refl2 s1 n1, keyD k, ?_, ?_⟩
  · rw [List.getElem?_map, e4]
    rfl
  · cases k with
    | inl i => exact .int i
    | inr s => exact .str s
theorem i_keys {tg e : Expr} {m : ME} (h : PE X e (tE C E m)) : PI X tg e (tI C E (mKeys m)) := by
  refine PI.imp (pi_keys h) fun σ H R ⟨r, ad, G, s, k⟩ => ⟨r, ad, G, s, ?_⟩
  unfold mKeys at k
  unfold kI at k
  unfold kE
  cases e : m r with
  | bad => simp only [e] at k
  | exc c fs => simp only [e] at k; exact k
  | ok d r1 =>
    simp only [e] at k
    cases d with
    | dct t es =>
      intro v G1 H1 s1 k1 p1
      cases p1 with
      | dK h1 h2 => exact ⟨_, _, rfl, .inl ⟨_, s1.hst.sub _ _ h1, k _ G1 H1 s1 k1 (wk_keysK h1 h2)⟩⟩
      | dT h1 h2 => exact ⟨_, _, rfl, .inr ⟨_, s1.hst.sub _ _ h1, k _ G1 H1 s1 k1 (wk_keysT h1 h2)⟩⟩
    | _ => exact k.elim
end
end DL

/-! Own exceptions: made and raised. -/
namespace DL
open PySem PySem.Spec PyProof.Rows L2

theorem u1 {k : Nat} {A : Around} (r : Room k A) : A.units + 1 < cLine := by have := r.un; omega

/-- what a class's __init__ does: each parameter is kept under its name -/
def spI (C : Addr) (fs : List Str) : Sp := fun vs H Q _ => ∃ a us, vs = .ref a :: us ∧ us.length = fs.length ∧ H a = some (exo a C none) ∧
  ∀ d, H d = none → d ≠ a → Q .non (upd (upd H d (exd d (fs.zip us).reverse)) a (exo a C (some d)))
theorem upd_twice {H : Hp} {a : Addr} {o u : HO} : upd (upd H a o) a u = upd H a u := by
  funext b
  by_cases h : b = a
  · subst h; rw [upd_same, upd_same]
  · rw [upd_ne h, upd_ne h, upd_ne h]
theorem upd_swap {H : Hp} {a d : Addr} {o u : HO} (h : a ≠ d) : upd (upd H a o) d u = upd (upd H d u) a o := by
  funext b
  by_cases h1 : b = a
  · subst h1; rw [upd_ne h, upd_same, upd_same]
  · by_cases h2 : b = d
    · subst h2; rw [upd_same, upd_ne h1, upd_same]
    · rw [upd_ne h2, upd_ne h1, upd_ne h1, upd_ne h2]

section
variable {P : Program} {w : World} {K : PySem.W.Frag} {mg : Str → Option Value} {base : Heap}
/-- a class's __init__ as the top has left it -/
structure IniD (K : PySem.W.Frag) (C : Addr) (qual : Str) (st : Stmt) (ps : List Str) (fs : List Str) : Prop where
  ex : ∃ f fd, Fun K "__init__" qual st f fd ∧ PySem.W.findIn K (.ref C) "__init__" = some (some (.ref f)) ∧ PySem.W.typeIn K (.ref f) = some (.type "function") ∧ Binds K fd ps []
  oex : OexC K C
  no : ∀ f ∈ fs, PySem.W.findIn K (.ref C) f = some none
  xf : XfC K C
/-- a class that can be raised -/
structure ExcD (P : Program) (w : World) (K : PySem.W.Frag) (mg : Str → Option Value) (base : Heap) (C : Addr) (k : Nat) (c : Str) (fs : List Str) : Prop where
  nm : mg c = some (.ref C)
  oex : OexC K C
  ini : ∃ fI fd ps, PySem.W.findIn K (.ref C) "__init__" = some (some (.ref fI)) ∧ PySem.W.typeIn K (.ref fI) = some (.type "function") ∧ FnOk P w K mg base (L2.CX P w) k fI fd ps (spI C fs) ∧ Binds K fd ps []

theorem spI_len {C : Addr} {fs : List Str} {vs : List V} {H : Hp} {Q : VK} {E : XK} (h : spI C fs vs H Q E) : vs.length = fs.length + 1 := by
  obtain ⟨a, us, rfl, e, _⟩ := h
  simp [e]
theorem exc1 {C : Addr} {c qual p1 f1 : Str} {st : Stmt} {pa pb pc pd : Pos} (nm : mg c = some (.ref C)) (d : IniD K C qual st ["self", p1] [f1]) (S : FnScope ["self", p1] ["self", p1] (defScope st))
    (hb : defBody st = [.Assign [.Attribute (.Name "self" pa) f1 pb] (.Name p1 pc) pd] := by rfl)
    (v1 : Vis (defScope st) "self" := by first | exact Or.inl rfl | exact Or.inr (Or.inl rfl)) (v2 : Vis (defScope st) p1 := by first | exact Or.inl rfl | exact Or.inr (Or.inl rfl))
    (hd1 : (p1 == ("__debug__" : Str)) = false := by decide) (hc1 : (p1 == ("__classdict__" : Str)) = false := by decide) :
    ExcD P w K mg base C 1 c [f1] := by
  obtain ⟨f, fd, F, iC, tI, b⟩ := d.ex
  refine ⟨nm, d.oex, f, fd, _, iC, tI, F.okX S (fun vs H Q E h => by have := spI_len h; simpa using this) (fun cdv A outer s H vs Q E hr h => ?_), b⟩
  rw [hb]
  refine ⟨_, pss_one (ps_ost (pe_var (i := 0) rfl v1) (pe_var (i := 1) rfl v2 hd1 hc1)), ?_⟩
  obtain ⟨a, us, rfl, el, ha, k⟩ := h
  match us, el with
  | [y], _ =>
    exact ⟨y, rfl, .ref a, rfl, a, C, rfl, d.oex, d.no f1 (by simp), .inl ⟨ha, fun dx n ne => k dx n ne⟩⟩
end
def sRaise (x : Str) (fs : List Str) (m : MA) : MS := fun r => match m r with
  | .ok ds _ => if ds.length = fs.length then .exc x (fs.zip ds).reverse else .bad
  | .exc c fs => .exc c fs
  | .bad => .bad
theorem RpF.append {K : PySem.W.Frag} {G : Hp} : ∀ {a : List (Str × V)} {b : List (Str × D)} {a' : List (Str × V)} {b' : List (Str × D)}, RpF K G a b → RpF K G a' b' → RpF K G (a ++ a') (b ++ b')
  | _, _, _, _, .nil, h => h
  | _, _, _, _, .cons p q, h => .cons p (q.append h)
theorem RpF.rev {K : PySem.W.Frag} {G : Hp} : ∀ {a : List (Str × V)} {b : List (Str × D)}, RpF K G a b → RpF K G a.reverse b.reverse
  | _, _, .nil => .nil
  | _, _, .cons p q => by
    rw [List.reverse_cons, List.reverse_cons]
    exact q.rev.append (.cons p .nil)
theorem rpF_zip {K : PySem.W.Frag} {G : Hp} : ∀ {fs : List Str} {vs : List V} {ds : List D}, RpL K G vs ds → RpF K G (fs.zip vs) (fs.zip ds)
  | [], _, _, _ => .nil
  | _ :: _, _, _, .nil => .nil
  | _ :: _, _, _, .cons p q => .cons p (rpF_zip q)
section
variable {X : Cx} {C : Fc} {E : XK} {pos : Pos} {x : Str} {p p2 : Pos} {e : Expr} {es : List Expr} {k j : Nat} {m : MA} {fs : List Str}
theorem s_raise (tk : Takes X (fun cls d _ H => E cls d H)) (d : ExcD X.prog X.w X.K X.mg X.base (C.cls x) k x fs) (hr : Room j X.A) (ha : PA X (e :: es) (tA C E m)) (hk : k + 1 ≤ j := by decide) (hl : fs.length ≤ 1000 := by decide) (hc : X.calm = true := by rfl) (hg : Gl X x := by rfl)
    (hdb : (x == ("__debug__" : Str)) = false := by decide) (he : starEach (e :: es) X.env = (false, eval e X.env) :: starEach es X.env := by rfl) (hpl : (backTo p2 (starEach es X.env)).any (·.1) = false := by rfl) :
    PS X (.Raise (some (.Call (.Name x p) (e :: es) [] p2)) none pos) (tS C E (sRaise x fs m)) := by
  obtain ⟨fI, fd, ps, iC, tI, F1, b⟩ := d.ini
  refine PS.imp (ps_raise hc tk (pmk_oex d.oex iC tI F1 (hr.mono hk) b .nil (passes_call tk (fun _ _ _ _ h => False.elim h)) hg d.nm ha hdb he hpl)) fun Dn σ H h => ?_
  obtain ⟨r, ad, G, s, k⟩ := h
  refine ⟨r, ad, G, s, ?_⟩
  unfold sRaise at k
  cases q : m r with
  | bad => rw [q] at k; exact k.elim
  | exc c f => rw [q] at k; exact k
  | ok ds r' =>
    rw [q] at k
    simp only at k
    intro vs G' H' s' kp pv
    by_cases el : ds.length = fs.length
    · rw [if_pos el] at k
      refine ⟨by rw [pv.length, el]; exact hl, fun a ha => ⟨a, vs, by rw [List.append_nil], by rw [pv.length, el], upd_same, fun dd hd ne => ?_⟩⟩
      rw [upd_ne ne] at hd
      have hs := s'.hst
      have fin : upd (del (upd (upd (upd H' a (exo a (C.cls x) none)) dd (exd dd (fs.zip vs).reverse)) a (exo a (C.cls x) (some dd))) a) dd (.xd (fs.zip vs).reverse) = upd H' dd (.xd (fs.zip vs).reverse) := by
        funext b
        by_cases h1 : b = dd
        · subst h1; rw [upd_same, upd_same]
        · rw [upd_ne h1, upd_ne h1]
          by_cases h2 : b = a
          · subst h2; rw [del_same, ha]
          · rw [del_ne h2, upd_ne h2, upd_ne h1, upd_ne h2]
      refine ⟨rfl, dd, _, upd_same, by rw [upd_ne ne, upd_same], hd, ?_⟩
      rw [fin]
      exact k dd _ G' _ (hs.grow (Grow.layH hs.sub hs.gnt hd)) upd_same (rpF_zip pv).rev
    · rw [if_neg el] at k; exact k.elim
end
end DL

/-! A lambda made and handed on: what stood stays, but for the tables told of. -/
namespace DL
open PySem PySem.Spec PyProof.Rows L2 LamX

structure ExtT (T : List (Addr × Str)) (H H1 : Hp) : Prop where
  dom : ∀ b, H b ≠ none → H1 b ≠ none
  keep : ∀ b o, H b = some o → (∀ p ∈ T, b ≠ p.1) → H1 b = some o
  non : ∀ b o, H b = some o → (∀ ps, o ≠ .tbl ps) → H1 b = some o
theorem ExtT.refl (T : List (Addr × Str)) (H : Hp) : ExtT T H H := ⟨fun _ h => h, fun _ _ h _ => h, fun _ _ h _ => h⟩
/-- one table of T has grown, a code object is new -/
theorem ExtT.one {T : List (Addr × Str)} {H : Hp} {P c : Addr} {q : Str} {ps qs : Array Value} (hP : H P = some (.tbl ps)) (hc : H c = none) (hm : (P, q) ∈ T) : ExtT T H (upd (upd H P (.tbl qs)) c (CodeO c q)) := by
  have two : ∀ b o, H b = some o → b ≠ P → upd (upd H P (.tbl qs)) c (CodeO c q) b = some o := fun b o e n => by
    rw [upd_ne (ne_of_none e hc), upd_ne n, e]
  refine ⟨fun b n => ?_, fun b o e n => two b o e (n _ hm), fun b o e n => two b o e fun z => ?_⟩
  · obtain ⟨o, e⟩ := some_of_ne n
    by_cases z : b = P
    · rw [upd_ne (ne_of_none e hc), z, upd_same]; simp
    · rw [two b o e z]; simp
  · rw [z, hP] at e
    exact n ps (Option.some.inj e).symm
theorem Tabs.one {T : List (Addr × Str)} {H : Hp} {P c : Addr} {q : Str} {pos : Pos} {ps : Array Value} (hT : Tabs T H) (hP : H P = some (.tbl ps)) (ht : TriplesOk ps.toList) (hc : H c = none) (hm : (P, q) ∈ T) (hu : ∀ p ∈ T, p.1 = P → p.2 = q) :
    Tabs T (upd (upd H P (.tbl (ps ++ #[rawInt pos.line, rawInt pos.col, .ref c]))) c (CodeO c q)) := by
  have E := ExtT.one (qs := ps ++ #[rawInt pos.line, rawInt pos.col, .ref c]) hP hc hm
  have app : (ps ++ #[rawInt pos.line, rawInt pos.col, .ref c]).toList = ps.toList ++ [rawInt pos.line, rawInt pos.col, .ref c] := by simp
  intro p hp
  obtain ⟨qs, g1, g2, g3⟩ := hT p hp
  by_cases z : p.1 = P
  · have eq : qs = ps := by
      rw [z, hP] at g1
      exact (HO.tbl.inj (Option.some.inj g1)).symm
    subst eq
    refine ⟨_, by rw [z, upd_ne (ne_of_none hP hc), upd_same], by rw [app]; exact TriplesOk_snoc _ _ _ _ ht, fun at_ cv hcv => ?_⟩
    rw [app] at hcv
    rcases among_app _ ht hcv with y | y
    · obtain ⟨c0, e1, e2⟩ := g3 at_ cv y
      exact ⟨c0, e1, E.non _ _ e2 codeO_ne⟩
    · refine ⟨c, y, ?_⟩
      rw [hu p hp z]
      exact upd_same
  · refine ⟨qs, ?_, g2, fun at_ cv hcv => ?_⟩
    · rw [upd_ne (ne_of_none g1 hc), upd_ne z]; exact g1
    · obtain ⟨c0, e1, e2⟩ := g3 at_ cv hcv
      exact ⟨c0, e1, E.non _ _ e2 codeO_ne⟩
section
variable {X : Cx} {pins : List (Addr × Obj)} {σ : L2.St} {H : Hp} {s : Shared}
theorem lam_made {T : List (Addr × Str)} {c P : Addr} {params : Arguments} {body : Expr} {scope : Scope} {pos : Pos} {E : Value → Shared → Prop} {Q : Value → Shared → Prop} (I : Inv X pins σ H s) (TB : TabB X.base X.mg c P) (hcode : X.env.code = .ref c)
    (hm : (P, X.env.qual ++ "<lambda>") ∈ T) (hu : ∀ p ∈ T, p.1 = P → p.2 = X.env.qual ++ "<lambda>") (hT : Tabs T H) (hdef : defaultsOf params X.env = ([], [])) (hfree : ∀ y ∈ scope.names, y.2 = .free → ∃ c, X.env.cells.lookup y.1 = some c)
    (k : ∀ (f c' : Addr) (pm ctv : Value) (H1 : Hp) (s' : Shared), Inv X pins σ H1 s' → ExtT T H H1 → Tabs T H1 → s'.heap.get? f = some (PySem.W.kla_obj "<lambda>" (X.env.qual ++ "<lambda>") params body scope (cloFrom X.env.cells scope.names []) pm c' ctv) →
      H1 f = none → f ∉ frs X.stack → H1 c' = some (CodeO c' (X.env.qual ++ "<lambda>")) → Q (.ref f) s') : wpAny (model X.prog X.w) X.A (eval (.Lambda params body scope pos) X.env) Q E s := by
  obtain ⟨ps, hP, ht, ha⟩ := hT _ hm
  have tabAt : s.heap.get? P = some { cls := .none, data := .fields ps } := I.hok P _ hP
  have bAt : s.heap.BuiltinsAt X.mg P := TB.bm.keeps I.bk
  have far : ∀ f, s.heap.objs.size ≤ f → f ∉ frs X.stack := fun f hf z => by
    rcases List.mem_cons.mp (I.stkSub _ z) with e | e
    · have lt := I.lt
      rw [← e] at lt
      exact absurd (Nat.lt_of_lt_of_le lt hf) (Nat.lt_irrefl _)
    · exact I.nofs hf e
  refine PySem.W.kla_eval hdef ?_
  cases hc : codeAmong pos ps.toList with
  | some cv =>
    obtain ⟨c', rfl, hco⟩ := ha pos cv hc
    refine PySem.W.kla_makeFunctionHit (mg := X.mg) (c := c) (P := P) (ps := ps) (closure_ok hfree) I.ok.glob (I.mod.glob.keeps I.bk) hcode (TB.code.keeps I.bk) tabAt ht hc bAt fun ctv h' tk up big => ?_
    exact k _ c' _ ctv H _ (I.kept fun b o e => Heap.get?_push_of_some _ (up b o e)) (ExtT.refl T H) hT (Heap.get?_push_size _ rfl) (I.hok.fresh big) (far _ big) hco
  | none =>
    refine PySem.W.kla_makeFunction (mg := X.mg) (c := c) (P := P) (ps := ps) (closure_ok hfree) I.ok.glob (I.mod.glob.keeps I.bk) hcode (TB.code.keeps I.bk) tabAt ht hc TB.gP bAt fun c' ctv h' tk up lo hi rec tab => ?_
    obtain ⟨_, oc, vs, t, e, hoc, hd, hv⟩ := rec
    cases e
    have big : s.heap.objs.size ≤ h'.objs.size := Nat.le_trans lo (Nat.le_of_lt hi)
    have nC : H c' = none := I.hok.fresh lo
    refine k h'.objs.size c' _ ctv _ _ (inv_table (t' := tk) (more := #[rawInt pos.line, rawInt pos.col, .ref c']) (h' := h'.push _) I hP (fun b o ne e => Heap.get?_push_of_some _ (up b o ne e)) (Heap.get?_push_of_some _ tab) lo ⟨oc, vs, t, Heap.get?_push_of_some _ hoc, hd, hv⟩)
      (ExtT.one hP nC hm) (Tabs.one hT hP ht nC hm hu) (Heap.get?_push_size _ rfl) ?_ (far _ big) upd_same
    have n1 : h'.objs.size ≠ c' := Nat.ne_of_gt hi
    have n2 : h'.objs.size ≠ P := Nat.ne_of_gt (Nat.lt_of_lt_of_le (Heap.lt_size tabAt) big)
    rw [upd_ne n1, upd_ne n2]
    exact I.hok.fresh big
end
def tLamT (T : List (Addr × Str)) (TT : (XK → Hp → VK → Prop) → Hp → VK → Prop) (t : XK → TE) : TE := fun σ H Q => Tabs T H ∧ ∀ H1, ExtT T H H1 → Tabs T H1 → TT (fun E H' Q' => t E σ H' Q') H1 Q
section
variable {X : Cx}
/-- x(lambda: body), x a def that lets nothing out -/
theorem e_lam {T : List (Addr × Str)} {TT : (XK → Hp → VK → Prop) → Hp → VK → Prop} {x a : Str} {g c P : Addr} {k : Nat} {st : Stmt} {fd : FuncData} {Ng : List Str}
    {params : Arguments} {body : Expr} {scope : Scope} {t : XK → TE} {p lpos pos : Pos} (F : Fun X.K x x st g fd) (hm : X.mg x = some (.ref g)) (hb : L2.Binds X.K fd [a] []) (Sg : FnScope Ng [a] (defScope st)) (hNg : Ng[0]? = some a) (hva : Vis (defScope st) a)
    (hG : ∀ cdv, GivesTo X Ng x (defScope st) g cdv (defBody st) a (X.env.qual ++ "<lambda>") TT)
    (TB : TabB X.base X.mg c P) (hcode : X.env.code = .ref c) (hmT : (P, X.env.qual ++ "<lambda>") ∈ T) (hu : ∀ p ∈ T, p.1 = P → p.2 = X.env.qual ++ "<lambda>") (hr : Room (k + 2) X.A) (L : LamS X.env.scope scope)
    (hbody : ∀ (A : Around) (outer : List Env) (s : Shared) (H : Hp) (E : XK) (f c' : Addr), Room k (A.deeper (lamEnv X scope s.heap.objs.size f c')) → PE (lamCx X A outer s H E scope f c') body (t E))
    (hdef : defaultsOf params X.env = ([], []) := by rfl)
    (hbind : ∀ (q : Str) (cl : List (Str × Addr)) (pm cv ctv : Value), bindArgs (PySem.W.kla_fn "<lambda>" q params body scope cl pm cv ctv) ⟨[], []⟩ = pure [] := by intros; rfl)
    (hg : Gl X x := by rfl) (hdb : (x == ("__debug__" : Str)) = false := by decide) (hd : (a == ("__debug__" : Str)) = false := by decide) (hcd : (a == ("__classdict__" : Str)) = false := by decide) :
    PE X (.Call (.Name x p) [.Lambda params body scope lpos] [] pos) (tLamT T TT t) := by
  refine ⟨fun pins s σ H Q I h => ?_⟩
  obtain ⟨hT, h⟩ := h
  obtain ⟨oc, od, kV, doc, pm, an, cdv, ct, osl, rfl, lk, hcg⟩ := F.ex
  refine wpAny_Call_Name_kw (ld_glob I hg hm (PySem.W.callWith_K (h₀ := X.base) I.ok.mod.kin F.kp ?_ (by rfl) (by rfl)) hdb)
  show wpAny _ _ (spliced ((false, eval (.Lambda params body scope lpos) X.env) :: backTo pos (starEach [] X.env))) _ _ s
  refine Calls.spliced_cons (lam_made I TB hcode hmT hu hT hdef (L.has I.ok) fun f c' pm' ctv H1 s' I1 eN T1 hf hfn hfr hco => Calls.spliced_nil ⟨I1.kIn, ?_⟩)
  have go : codeAny (model X.prog X.w) X.A (.call (.ref g) ⟨[.ref f], []⟩) (CR C8.CX0 X.stack X.prog X.w H1 s' Q C8.E0) s' := by
    refine run_ofS (k := k + 1) (N := Ng) (ps := [a]) (us := [.ref f]) (vs := [.ref f]) lk hcg Sg hr I1.env0 (hb s' [.ref f] I1.kIn rfl) (.cons rfl .nil) rfl fun deep => ?_
    obtain ⟨t', w1, w2⟩ := hG cdv f c' s' H1 Q (fun E H' Q' => t E σ H' Q') (fun W pn xe E p1 p2 tk hW => pe_act (i := 0) I1 L hf hfn hfr (hbind _ _ _ _ _) tk hW deep (fun A outer s H hr2 => hbody A outer s H E f c' hr2) hNg hva hd hcd) hco (h H1 eN T1)
    exact ⟨t', w1.nox, w2⟩
  refine wpAny_call (codeAny_mono go fun r s2 hq => ?_)
  cases r with
  | error e => exact (show False from hq).elim
  | ok fl =>
    cases fl with
    | ret u => exact I1.after hq
    | next => exact False.elim hq
    | brk => exact False.elim hq
    | cont => exact False.elim hq
end
end DL

/-! try with several clauses, each with or without a name. -/
namespace DL
open PySem PySem.Spec PyProof.Rows L2 LamX

def wNo (K : PySem.W.Frag) (c : Value) (ts : Addr → Value → Option Addr → TS) (W : WX) (D : Ends) : WX := fun cls d σ H =>
  ∃ b, PySem.W.exmOne K cls c = some b ∧ (b = true → ∀ a, H a = none → ts a cls d D σ H) ∧ (b = false → W cls d σ H)
/-- the clauses, and what they wish -/
inductive HdN (X : Cx) : List ExceptHandler → (WX → Ends → WX) → Prop
  | nil : HdN X [] (fun W _ => W)
  | as {x n : Str} {c : Value} {i : Nat} {ts : Addr → Value → Option Addr → TS} {b₀ : Stmt} {suite : List Stmt} {np p : Pos} {hds : List ExceptHandler} {w : WX → Ends → WX} (hi : X.N[i]? = some n) (hl : X.env.kindOf n = some .local) (hc : Names X x c)
      (hsu : ∀ (a : Addr) (oe : Obj) (cls : Value) (d : Option Addr) (pn : List (Addr × Obj)), Zc cls d oe → (∃ vs, oe.data = .fields vs) → PSs (X.suite a ((a, oe) :: pn)) (b₀ :: suite) (ts a cls d)) (r : HdN X hds w) :
      HdN X (.ExceptHandler (some (.Name x np)) (some n) (b₀ :: suite) p :: hds) (fun W D => wAs X.K c i ts (w W D) D)
  | no {x : Str} {c : Value} {ts : Addr → Value → Option Addr → TS} {b₀ : Stmt} {suite : List Stmt} {np p : Pos} {hds : List ExceptHandler} {w : WX → Ends → WX} (hc : Names X x c)
      (hsu : ∀ (a : Addr) (oe : Obj) (cls : Value) (d : Option Addr) (pn : List (Addr × Obj)), Zc cls d oe → (∃ vs, oe.data = .fields vs) → PSs (X.suite a ((a, oe) :: pn)) (b₀ :: suite) (ts a cls d)) (r : HdN X hds w) :
      HdN X (.ExceptHandler (some (.Name x np)) none (b₀ :: suite) p :: hds) (fun W D => wNo X.K c ts (w W D) D)
section
variable {X : Cx} {pins : List (Addr × Obj)} {Dn : Ends}
/-- an end of the body is an end of the whole -/
theorem sp_back (ok : X.Ok) {pn : List (Addr × Obj)} {xe : Value → Shared → Prop} {f : Flow} {s : Shared} (h : SP (X.tr (X.pn ++ pins) xe) pn Dn f s) : SP X pins Dn f s := by
  cases f with
  | ret u =>
    obtain ⟨v, σ, H, J, r, q⟩ := h
    exact ⟨v, σ, H, J.ofTry ok, r, q⟩
  | next => exact h.imp fun σ h => h.imp fun H h => ⟨h.1.ofTry ok, h.2⟩
  | brk => exact h.imp fun σ h => h.imp fun H h => ⟨h.1.ofTry ok, h.2⟩
  | cont => exact h.imp fun σ h => h.imp fun H h => ⟨h.1.ofTry ok, h.2⟩
theorem sp_suite (ok : X.Ok) {a : Addr} {q : Addr × Obj} {pn : List (Addr × Obj)} {f : Flow} {s : Shared} (h : SP (X.suite a (q :: (X.pn ++ pins))) pn Dn f s) : SP X pins Dn f s := by
  cases f with
  | ret u =>
    obtain ⟨v, σ, H, J, r, q⟩ := h
    exact ⟨v, σ, H, J.unsuite ok, r, q⟩
  | next => exact h.imp fun σ h => h.imp fun H h => ⟨h.1.unsuite ok, h.2⟩
  | brk => exact h.imp fun σ h => h.imp fun H h => ⟨h.1.unsuite ok, h.2⟩
  | cont => exact h.imp fun σ h => h.imp fun H h => ⟨h.1.unsuite ok, h.2⟩
end
section
variable {X : Cx} {body : List Stmt} {h₀ : ExceptHandler} {hds : List ExceptHandler} {wsh : WX → Ends → WX} {pos : Pos} {tb : WX → TS} {Wout : WX}
theorem s_tryN (hs : X.stack = X.env :: X.outer) (hf : X.env.frame = some X.env.locals) (hN : X.N.Nodup) (tk : Takes X Wout)
    (hb : ∀ (W : WX) (pn : List (Addr × Obj)) (xe : Value → Shared → Prop), Takes (X.tr pn xe) W → PassesOwn (model X.prog X.w) X.A X.env xe → PSs (X.tr pn xe) body (tb W))
    (hh : HdN X (h₀ :: hds) wsh) : PS X (.Try body (h₀ :: hds) [] [] pos) (fun D σ H => tb (wsh Wout D) D σ H) := by
  refine ⟨fun pins s σ H D I h => ?_⟩
  have ok := I.ok
  have frm : X.A.frames = some (X.env :: X.outer) := by rw [ok.frames, hs]
  refine wpAny_Try_except ?_
  have run := (hb (wsh Wout D) (X.pn ++ pins) (fun e s₁ => wpAny (model X.prog X.w) X.A (noteFrame e X.env) (fun _ s₂ => wpAny (model X.prog X.w) X.A (setFlight e none)
    (fun _ s₃ => wpAny (model X.prog X.w) X.A (handleBy e X.env (h₀ :: hds)) (SP X pins D) X.xe s₃) X.xe s₂) X.xe s₁) (fun u s' xx => ?_) PassesOwn.looking).run [] s σ H D (I.toTry _) h
  · refine wpAny_mono run (fun f s1 hsp => ?_) (fun e s1 he => he)
    have back := sp_back (pins := pins) ok hsp
    cases f with
    | next => exact wpAny_execs_nil back
    | brk => exact back
    | cont => exact back
    | ret u => exact back
  · obtain ⟨a, B, sI, pins', σ', H', cls, d, rfl, J', nb, up, sky, na, os, ag, w⟩ := xx
    have J : Inv X pins σ' H' sI := J'.ofTry ok
    refine Sky.land Zc.steady frm hf (show Sky B (X.env :: X.outer) a (Zc cls d) X.env.locals s'.heap by rw [← hs]; exact sky) fun h3 fl3 up3 => ?_
    have J3 : Inv X pins σ' H' { s' with heap := h3 } := J.landed nb fl3.1 (up.trans up3) os ag
    obtain ⟨oe3, vs3, he3, hz3, hd3⟩ := fl3.there
    have nfr : a ∉ frs (X.env :: X.outer) := fun hm => by
      obtain ⟨_, o', e', hnf⟩ := fl3.2.2.1.mem hm
      rw [he3] at e'; cases e'
      exact hnf _ hd3
    have nL : a ≠ X.env.locals := fun z => nfr (List.mem_filterMap.mpr ⟨X.env, List.mem_cons_self, by rw [hf, z]⟩)
    have nF : a ∉ X.fs := fun hm => by
      obtain ⟨e, he, q⟩ := List.mem_filterMap.mp hm
      exact nfr (List.mem_filterMap.mpr ⟨e, List.mem_cons_of_mem _ he, q⟩)
    have S3 := J3.suite he3 hd3 na nL nF
    have look : PySem.W.Looks (model X.prog X.w) h3 (typeOf (.ref a)) cls := fun A Q E s k q => wpAny_typeOf_ref (k _ _ he3) (by rw [hz3.1]; exact q)
    have named : ∀ {x : Str} {c : Value} {np : Pos} {Q : Value → Shared → Prop} {E : Value → Shared → Prop}, Names X x c → Q c { s' with heap := h3 } → wpAny (model X.prog X.w) (X.A.mark (some (.ref a))) (eval (.Name x np) X.env) Q E { s' with heap := h3 } := fun {x c np Q E} hc q => by
      rcases hc with ⟨hg, hdbg, hm | ⟨hm, hv, hnn⟩⟩
      · exact ld_glob (X := X.suite a ((a, oe3) :: (X.pn ++ pins))) S3 hg hm q hdbg
      · exact ld_blt (X := X.suite a ((a, oe3) :: (X.pn ++ pins))) S3 hg hm hv q hnn hdbg
    have go : ∀ {hds' : List ExceptHandler} {w' : WX → Ends → WX}, HdN X hds' w' → w' Wout D cls d σ' H' → wpAny (model X.prog X.w) X.A (handleBy (.ref a) X.env hds') (SP X pins D) X.xe { s' with heap := h3 } := by
      intro hds' w' hk
      induction hk with
      | nil =>
        intro w
        refine wpAny_handleBy_nil ?_
        obtain ⟨k1, k2, k3, oe, vs, T, oT, ts', he, hz, hd, h1, hr⟩ := id fl3
        unfold PySem.passOn
        refine wpAny_bind (wpAny_field he hd h1 ?_)
        rw [if_neg (show ¬ ((Value.ref T == Value.none) = true) from by simp)]
        have fin : wpAny (model X.prog X.w) X.A (setFlight (.ref a) X.env.frame) (fun _ s4 => wpAny (model X.prog X.w) X.A (throw (.ref a) : Sem Flow) (SP X pins D) X.xe s4) X.xe { s' with heap := h3 } := by
          rw [hf]
          exact HandSPX.setFlight_upZ fl3 fun h4 hh4 up4 => wpAny_throw (tk _ _ ⟨a, B, sI, pins, σ', H', cls, d, rfl, J, nb, (up.trans up3).trans up4, .inr (.inr (by rw [hs]; exact hh4)), na, os, ag, w⟩)
        first
          | exact wpAny_bind (wpAny_pure (wpAny_bind fin))
          | exact wpAny_bind fin
      | as hi hl hc hsu r ih =>
        intro w
        obtain ⟨b, hb1, hyes, hno⟩ := w
        refine wpAny_handleBy_cons (codeAny_handlers_test ?_) (by intro q; cases q)
        refine named hc ((PySem.W.exm_one (M := model X.prog X.w) (J3.kIn) look hb1).here ?_)
        cases b with
        | false => exact ih (hno rfl)
        | true =>
          refine codeAny_handlers_suite_as (HandSPX.lands_againZ fl3 fun h4 fl4 up4 => ?_)
          have J4 : Inv X pins σ' H' { s' with heap := h4 } := J.landed nb fl4.1 ((up.trans up3).trans up4) os ag
          obtain ⟨oe4, vs4, he4, hz4, hd4⟩ := fl4.there
          have S4 := J4.suite he4 hd4 na nL nF
          refine store_ok (X := X.suite a ((a, oe4) :: (X.pn ++ pins))) (v := .ref a) S4 hN hi (.inl hl) rfl (fun s5 S5 => ?_) (.inr hl)
          refine wpAny_mono ((hsu a oe4 cls d (X.pn ++ pins) hz4 ⟨_, hd4⟩).run [] s5 _ H' _ S5 (hyes rfl a na)) (fun f s6 hsp => ?_) (fun _ _ z => False.elim z)
          cases f with
          | ret u =>
            obtain ⟨v6, σ6, H6, S6, r6, q6⟩ := hsp
            exact gone_ok (S6.unsuite ok) hN hi hl fun s7 J7 => ⟨_, _, _, J7, r6, q6⟩
          | next =>
            obtain ⟨σ6, H6, S6, q6⟩ := hsp
            exact gone_ok (S6.unsuite ok) hN hi hl fun s7 J7 => ⟨_, _, J7, q6⟩
          | brk =>
            obtain ⟨σ6, H6, S6, q6⟩ := hsp
            exact gone_ok (S6.unsuite ok) hN hi hl fun s7 J7 => ⟨_, _, J7, q6⟩
          | cont =>
            obtain ⟨σ6, H6, S6, q6⟩ := hsp
            exact gone_ok (S6.unsuite ok) hN hi hl fun s7 J7 => ⟨_, _, J7, q6⟩
      | no hc hsu r ih =>
        intro w
        obtain ⟨b, hb1, hyes, hno⟩ := w
        refine wpAny_handleBy_cons (codeAny_handlers_test ?_) (by intro q; cases q)
        refine named hc ((PySem.W.exm_one (M := model X.prog X.w) (J3.kIn) look hb1).here ?_)
        cases b with
        | false => exact ih (hno rfl)
        | true =>
          refine codeAny_handlers_suite (HandSPX.lands_againZ fl3 fun h4 fl4 up4 => ?_)
          have J4 : Inv X pins σ' H' { s' with heap := h4 } := J.landed nb fl4.1 ((up.trans up3).trans up4) os ag
          obtain ⟨oe4, vs4, he4, hz4, hd4⟩ := fl4.there
          refine wpAny_mono ((hsu a oe4 cls d (X.pn ++ pins) hz4 ⟨_, hd4⟩).run [] _ _ H' _ (J4.suite he4 hd4 na nL nF) (hyes rfl a na)) (fun f s6 hsp => ?_) (fun _ _ z => False.elim z)
          exact sp_suite ok hsp
    exact go hh w
end
end DL

/-! The law's own asker: try: return (told, ask()) / except C as e: return (tag, e.f, ..) -/
namespace DL
open PySem PySem.Spec PyProof.Rows L2 LamX

def looks (fv : List (Str × V)) : List Str → Option (List V)
  | [] => some []
  | f :: fs => match fv.lookup f, looks fv fs with
    | some v, some vs => some (v :: vs)
    | _, _ => none
/-- e.f, .. -/
inductive AttL (n : Str) : List Expr → List Str → Prop
  | nil : AttL n [] []
  | cons {f : Str} {fs : List Str} {es : List Expr} {pe pa : Pos} (r : AttL n es fs) : AttL n (.Attribute (.Name n pe) f pa :: es) (f :: fs)
def tAtts (i : Nat) (a C : Addr) (cls : Value) (d : Option Addr) (fs : List Str) : TA := fun σ H Q => σ[i]? = some (some (.ref a)) ∧ cls = .ref C ∧ ∃ (dd : Addr) (fv : List (Str × V)) (vs : List V), d = some dd ∧ H dd = some (.xd fv) ∧ looks fv fs = some vs ∧ Q vs H
theorem pa_atts {X : Cx} {a C : Addr} {oe : Obj} {cls : Value} {d : Option Addr} {pn : List (Addr × Obj)} {n : Str} {i : Nat} (T : XfC X.K C) (hz : Zc cls d oe) (hf : ∃ vs, oe.data = .fields vs) (hN : X.N[i]? = some n) (hv : Vis X.env.scope n)
    (hd : (n == ("__debug__" : Str)) = false) (hcd : (n == ("__classdict__" : Str)) = false) : ∀ {es : List Expr} {fs : List Str}, AttL n es fs → (∀ f ∈ fs, PySem.W.findIn X.K (.ref C) f = some none) → PA (X.suite a ((a, oe) :: pn)) es (tAtts i a C cls d fs)
  | _, _, .nil, _ => PA.imp pa_nil fun σ H Q h => by
    obtain ⟨_, _, dd, fv, vs, _, _, e, q⟩ := h
    cases e
    exact q
  | _, _, @AttL.cons _ f fs es pe pa r, hno => by
    have one : PE (X.suite a ((a, oe) :: pn)) (.Attribute (.Name n pe) f pa) _ := pe_xf (cls := cls) (d := d) T (hno f (by simp)) hz hf (pe_var (i := i) hN hv hd hcd)
    refine PA.imp (pa_cons one (pa_atts T hz hf hN hv hd hcd r fun g hg => hno g (by simp [hg]))) fun σ H Q h => ?_
    obtain ⟨e1, e2, dd, fv, vs, e3, e4, e5, q⟩ := h
    unfold looks at e5
    split at e5
    · rename_i v ws l1 l2
      cases e5
      exact ⟨.ref a, e1, rfl, e2, dd, fv, v, e3, e4, l1, e1, e2, dd, fv, ws, e3, e4, l2, q⟩
    · cases e5

abbrev Cls := List (Str × Str × List Str)
def wMet (K : PySem.W.Frag) (cls : Str → Addr) (Q : VK) : Cls → XK
  | [] => fun _ _ _ => False
  | (c, tag, fs) :: l => fun v d H => ∃ b, PySem.W.exmOne K v (.ref (cls c)) = some b ∧ (b = true → v = .ref (cls c) ∧ ∃ (dd : Addr) (fv : List (Str × V)) (vs : List V), d = some dd ∧ H dd = some (.xd fv) ∧ looks fv fs = some vs ∧
      ∀ p, H p = none → Q (.ref p) (upd H p (.tup (.str tag :: vs)))) ∧ (b = false → wMet K cls Q l v d H)
def TMet (K : PySem.W.Frag) (cls : Str → Addr) (told : Str) (l : Cls) : (XK → Hp → VK → Prop) → Hp → VK → Prop := fun tl H Q =>
  tl (wMet K cls Q l) H (fun v H1 => ∀ p, H1 p = none → Q (.ref p) (upd H1 p (.tup [.str told, v])))
/-- the clauses as they are written -/
inductive MetH (n : Str) : List ExceptHandler → Cls → Prop
  | nil : MetH n [] []
  | cons {c tag : Str} {fs : List Str} {es : List Expr} {hds : List ExceptHandler} {l : Cls} {np p p1 p2 p3 : Pos} {k1 k2} (ha : AttL n es fs) (r : MetH n hds l) :
      MetH n (.ExceptHandler (some (.Name c np)) (some n) [.Return (some (.Tuple (.Constant (.str tag) k1 p1 :: es) k2 p2)) p3] p :: hds) ((c, tag, fs) :: l)
/-- what the clauses ask of the text -/
def ClsOk (K : PySem.W.Frag) (mg : Str → Option Value) (cls : Str → Addr) (sg : Scope) (l : Cls) : Prop :=
  ∀ x ∈ l, mg x.1 = some (.ref (cls x.1)) ∧ sg.names.lookup x.1 = some .globalImplicit ∧ (x.1 == ("__debug__" : Str)) = false ∧ XfC K (cls x.1) ∧ (∀ f ∈ x.2.2, PySem.W.findIn K (.ref (cls x.1)) f = some none) ∧ x.2.2.length ≤ 100
theorem hdN_met {Y : Cx} {cls : Str → Addr} {n : Str} {i : Nat} (hN : Y.N[i]? = some n) (hl : Y.env.kindOf n = some .local) (hd : (n == ("__debug__" : Str)) = false) (hcd : (n == ("__classdict__" : Str)) = false) :
    ∀ {hds : List ExceptHandler} {l : Cls}, MetH n hds l → ClsOk Y.K Y.mg cls Y.env.scope l → ∃ w, HdN Y hds w ∧ ∀ (W : WX) (Dn : Ends) (v : Value) (d : Option Addr) (σ : L2.St) (H : Hp), σ.length = Y.N.length → wMet Y.K cls Dn.rt l v d H → w W Dn v d σ H
  | _, _, .nil, _ => ⟨_, .nil, fun _ _ _ _ _ _ _ z => z.elim⟩
  | _, _, @MetH.cons _ c tag fs es hds l np p p1 p2 p3 k1 k2 ha r, ok => by
    obtain ⟨w, h1, h2⟩ := hdN_met hN hl hd hcd r fun x hx => ok x (by simp [hx])
    obtain ⟨m, g, db, xf, no, len⟩ := ok (c, tag, fs) (by simp)
    refine ⟨_, .as hN hl ⟨g, db, .inl m⟩ (fun a oe v d pn hz hf => pss_one (ps_ret (pe_tup (pa_cons pe_str (pa_atts xf hz hf hN (.inl hl) hd hcd ha no))))) h1, fun W Dn v d σ H hs z => ?_⟩
    obtain ⟨b, e, yes, no'⟩ := z
    refine ⟨b, e, fun hb a na => ?_, fun hb => h2 W Dn v d σ H hs (no' hb)⟩
    obtain ⟨ev, dd, fv, vs, e1, e2, e3, q⟩ := yes hb
    have li : i < σ.length := by rw [hs]; exact lt_of_get hN
    have ll : ∀ {fs : List Str} {vs : List V}, looks fv fs = some vs → vs.length = fs.length := by
      intro fs
      induction fs with
      | nil => intro vs h; cases h; rfl
      | cons f fs ih =>
        intro vs h
        unfold looks at h
        split at h
        · rename_i l2; cases h; simp [ih l2]
        · cases h
    refine ⟨set_at li, ev, dd, fv, vs, e1, e2, e3, ?_, fun p hp => q p hp⟩
    have := ll e3
    rw [sizeLine_eq]
    simp only [List.length_cons]
    simp only at len
    omega
theorem met_gives {X : Cx} {cls : Str → Addr} {Ng : List Str} {x a n q told : Str} {sg : Scope} {g : Addr} {cdg : Value} {i : Nat} {h₀ : ExceptHandler} {hds : List ExceptHandler} {l : Cls} {p0 p1 p2 p3 p4 p5 : Pos} {k1 k2} (hN : Ng.Nodup) (hi : Ng[i]? = some n) (hl : sg.names.lookup n = some .local)
    (hd : (n == ("__debug__" : Str)) = false) (hcd : (n == ("__classdict__" : Str)) = false) (hh : MetH n (h₀ :: hds) l) (ok : ClsOk X.K X.mg cls sg l) (h0 : ∀ f : Addr, (L2.start Ng [V.ref f])[0]? = some (some (V.ref f))) :
    GivesTo X Ng x sg g cdg [.Try [.Return (some (.Tuple [.Constant (.str told) k1 p0, .Call (.Name a p1) [] [] p2] k2 p3)) p4] (h₀ :: hds) [] [] p5] a q (TMet X.K cls told l) := by
  intro f c' s H Q tl act hc h
  obtain ⟨w, hw1, hw2⟩ := hdN_met (Y := (cxOf C8.CX0 X.prog X.w X.K X.mg X.base Ng x sg g cdg X.A X.stack s H C8.E0).nox) (cls := cls) hi hl hd hcd hh ok
  refine ⟨_, pss_one (s_tryN (X := (cxOf C8.CX0 X.prog X.w X.K X.mg X.base Ng x sg g cdg X.A X.stack s H C8.E0).nox) (Wout := fun _ _ _ _ => False)
      (tb := fun W D σ H => ∃ Ech : XK, (∀ cls d σ' H', Ech cls d H' → σ'.length = Ng.length → W cls d σ' H') ∧ σ[0]? = some (some (.ref f)) ∧ H c' = some (CodeO c' q) ∧ tl Ech H fun v H1 => ∀ p, H1 p = none → D.rt (.ref p) (upd H1 p (.tup [.str told, v])))
      rfl rfl hN LamX.takes0 (fun W pn xe tk _ => ?_) hw1), ?_⟩
  · refine ⟨fun pins s' σ H' D I h' => ?_⟩
    obtain ⟨Ech, hW, h1, h2, h3⟩ := h'
    have tk' : Takes ((cxOf C8.CX0 X.prog X.w X.K X.mg X.base Ng x sg g cdg X.A X.stack s H C8.E0).tr pn xe) (fun cls d σ H => σ.length = Ng.length → W cls d σ H) := fun u s' ⟨a, B, sI, pins, σ, H, cls, d, e, I, nb, up, sky, na, os, ag, w⟩ =>
      tk u s' ⟨a, B, sI, pins, σ, H, cls, d, e, I, nb, up, sky, na, os, ag, w I.len⟩
    have hp := act _ pn xe Ech p1 p2 tk' hW
    have hq := pss_one (ps_ret (pos := p4) (pe_tup (x1 := k2) (pos := p3) (pa_cons (pe_str (x := told) (j := k1) (pos := p0)) (pa_cons hp pa_nil))))
    refine hq.run pins s' σ H' D I ⟨h1, h2, ?_⟩
    have e2 : (fun (v : V) (H1 : Hp) => ([V.str told, v].length ≤ sizeLine ∧ ∀ p, H1 p = none → D.rt (.ref p) (upd H1 p (.tup [.str told, v])))) = fun v H1 => ∀ p, H1 p = none → D.rt (.ref p) (upd H1 p (.tup [.str told, v])) := by
      funext v H1
      refine propext ⟨fun z => z.2, fun z => ⟨by rw [sizeLine_eq]; simp, z⟩⟩
    show tl Ech H' (fun v H1 => ([V.str told, v].length ≤ sizeLine ∧ ∀ p, H1 p = none → D.rt (.ref p) (upd H1 p (.tup [.str told, v]))))
    rw [e2]
    exact h3
  · exact ⟨wMet X.K cls Q l, fun v d σ' H' z hs => hw2 _ _ v d σ' H' hs z, h0 f, hc, h⟩
end DL

/-! met(lambda: body) over data. -/
namespace DL
open PySem PySem.Spec PyProof.Rows L2 LamX

def hide : Sl → Sl
  | .own _ _ => .un
  | .ownD _ _ => .un
  | .ownI _ _ => .un
  | x => x
def hideO (r : DEnv) : DEnv := r.map hide
def dlooks (fs : List (Str × D)) : List Str → Option (List D)
  | [] => some []
  | f :: l => match fs.lookup f, dlooks fs l with
    | some v, some vs => some (v :: vs)
    | _, _ => none
def metC (fs : List (Str × D)) (c : Str) : Cls → Option D
  | [] => none
  | (c', tag, gs) :: l => if c = c' then (dlooks fs gs).map fun ds => D.tup (.str tag :: ds) else metC fs c l
def mMet (cs : List Str) (told : Str) (l : Cls) (m : ME) : ME := fun r => match m (hideO r) with
  | .ok d _ => .ok (.tup [.str told, d]) r
  | .exc c fs => if c ∈ cs then optE (metC fs c l) r else .bad
  | .bad => .bad
/-- the def that asks -/
structure MetD (K : PySem.W.Frag) (mg : Str → Option Value) (cls : Str → Addr) (x : Str) (cs : List Str) (told : Str) (l : Cls) : Prop where
  ex : ∃ (st : Stmt) (a : Str) (Ng : List Str) (g : Addr) (fd : FuncData), Fun K x x st g fd ∧ mg x = some (.ref g) ∧ L2.Binds K fd [a] [] ∧ FnScope Ng [a] (defScope st) ∧ Ng[0]? = some a ∧ Vis (defScope st) a ∧ (a == ("__debug__" : Str)) = false ∧ (a == ("__classdict__" : Str)) = false ∧
    ∀ (X : Cx) (cdv : Value) (q : Str), X.K = K → X.mg = mg → GivesTo X Ng x (defScope st) g cdv (defBody st) a q (TMet K cls told l)
  exm : ∀ c ∈ cs, ∀ y ∈ l, PySem.W.exmOne K (.ref (cls c)) (.ref (cls y.1)) = some (decide (c = y.1))
theorem lookup_F {K : PySem.W.Frag} {G : Hp} {f : Str} : ∀ {fv : List (Str × V)} {fs : List (Str × D)} {d : D}, RpF K G fv fs → fs.lookup f = some d → ∃ v, fv.lookup f = some v ∧ Rp K G v d
  | _, _, _, .nil, e => by cases e
  | _, _, _, @RpF.cons _ _ x v d vs ds p q, e => by
    simp only [List.lookup] at e ⊢
    split at e
    · cases e; exact ⟨v, rfl, p⟩
    · exact lookup_F q e
theorem looks_F {K : PySem.W.Frag} {G : Hp} {fv : List (Str × V)} {fs : List (Str × D)} (h : RpF K G fv fs) : ∀ {gs : List Str} {ds : List D}, dlooks fs gs = some ds → ∃ vs, looks fv gs = some vs ∧ RpL K G vs ds
  | [], _, e => by cases e; exact ⟨[], rfl, .nil⟩
  | g :: gs, _, e => by
    unfold dlooks at e
    split at e
    · rename_i v vs e1 e2
      cases e
      obtain ⟨u, a1, a2⟩ := lookup_F h e1
      obtain ⟨us, b1, b2⟩ := looks_F h e2
      refine ⟨u :: us, ?_, .cons a2 b2⟩
      unfold looks
      rw [a1, b1]
    · cases e
section
variable {C : Fc} {r : DEnv} {ad : Nat → Addr} {σ : L2.St} {G H H1 : Hp}
theorem ExtT.wr {T : List (Addr × Str)} (e : ExtT T H H1) {b : Addr} (h : DL.wr (H b)) : DL.wr (H1 b) := by
  cases q : H b with
  | none => rw [q] at h; exact h.elim
  | some o =>
    rw [q] at h
    rw [e.non b o q fun ps z => by rw [z] at h; exact h]
    exact h
theorem Stt.tab (s : Stt C r ad σ G H) (e : ExtT C.T H H1) (t : Tabs C.T H1) : Stt C r ad σ G H1 := by
  have hs := s.hst
  refine ⟨⟨fun b o q => e.non b o (hs.sub b o q) fun ps z => hs.gnt b ps (by rw [q, z]), hs.gnt, hs.g0, fun b n => e.dom b (hs.dom b n), fun b n => e.wr (hs.domN b n), fun b o q n t => e.keep b o (hs.keep b o q n t) t, hs.nofz, t⟩, s.len, s.dat, fun i k l q => ?_, fun i t l q => ?_, fun i c l q => ?_, s.inj⟩
  · obtain ⟨a, b, c, xs, h1, h2⟩ := s.own i k l q
    exact ⟨a, b, c, xs, e.non _ _ h1 (fun ps z => by cases z), h2⟩
  · obtain ⟨a, b, c, h1⟩ := s.ownD i t l q
    refine ⟨a, b, c, h1.up (Same.refl _) ?_⟩
    rcases h1 with ⟨_, kvs, q, _⟩ | ⟨_, kvs, q, _⟩ <;> rw [q, e.non _ _ q (fun ps z => by cases z)]
  · obtain ⟨a, b, c', h1⟩ := s.ownI i c l q
    refine ⟨a, b, c', h1.up (Same.refl _) (fun b u z y => e.non b u z fun ps y' => ?_) fun _ _ z => z⟩
    rw [y'] at z y
    rcases y with y | y
    · obtain ⟨_, _, _, _, w, _⟩ := h1
      rw [y, w] at z; cases z
    · cases y
theorem Kp.tab (e : ExtT C.T H H1) : Kp C r r ad G H G H1 :=
  ⟨Same.refl _, fun _ z => z, fun b n => e.dom b n, fun b n => e.wr n, fun b u q _ t => e.keep b u q t, fun _ _ z _ => z⟩
theorem hide_dat {i : Nat} {d : D} (h : (hideO r)[i]? = some (.dat d)) : r[i]? = some (.dat d) := by
  unfold hideO at h
  rw [List.getElem?_map] at h
  cases q : r[i]? with
  | none => rw [q] at h; cases h
  | some x => rw [q] at h; cases x <;> simp [hide] at h ⊢ <;> exact h
theorem hide_no {i : Nat} : ¬ isOwn (hideO r) i := by
  unfold hideO
  rintro (⟨k, l, h⟩ | ⟨k, l, h⟩ | ⟨k, l, h⟩) <;> rw [List.getElem?_map] at h <;> cases q : r[i]? with
  | none => rw [q] at h; cases h
  | some x => rw [q] at h; cases x <;> simp [hide] at h
theorem Stt.hidden (s : Stt C r ad σ G H) : Stt (fc0 C.K C.cls G H) (hideO r) ad σ G H := by
  refine ⟨⟨s.hst.sub, s.hst.gnt, Same.refl _, fun _ z => z, fun _ z => z, fun _ _ z _ _ => z, fun _ _ z => z, fun p hp => by cases hp⟩, ?_, fun i d h => s.dat i d (hide_dat h), fun i k l h => absurd (.inl ⟨k, l, h⟩) hide_no, fun i k l h => absurd (.inr (.inl ⟨k, l, h⟩)) hide_no, fun i k l h => absurd (.inr (.inr ⟨k, l, h⟩)) hide_no, fun i j h => absurd h hide_no⟩
  unfold hideO
  rw [List.length_map]
  exact s.len
end
section
variable {X : Cx} {C : Fc} {E : XK}
theorem wMet_of {K : PySem.W.Frag} {cls : Str → Addr} {Q : VK} {c : Str} {dd : Addr} {fv : List (Str × V)} {fs : List (Str × D)} {G H : Hp} {d : D} (hd : H dd = some (.xd fv)) (pf : RpF K G fv fs) :
    ∀ {l : Cls}, (∀ y ∈ l, PySem.W.exmOne K (.ref (cls c)) (.ref (cls y.1)) = some (decide (c = y.1))) → metC fs c l = some d →
      (∀ p vs tag ds, d = .tup (.str tag :: ds) → RpL K G vs ds → H p = none → Q (.ref p) (upd H p (.tup (.str tag :: vs)))) → wMet K cls Q l (.ref (cls c)) (some dd) H
  | [], _, e, _ => by cases e
  | (c', tag, gs) :: l, ex, e, k => by
    refine ⟨_, ex (c', tag, gs) (by simp), fun h => ?_, fun h => ?_⟩
    · have h := of_decide_eq_true h
      simp only at h
      subst h
      unfold metC at e
      rw [if_pos rfl] at e
      cases q : dlooks fs gs with
      | none => rw [q] at e; cases e
      | some ds =>
        rw [q] at e
        cases e
        obtain ⟨vs, a, b⟩ := looks_F pf q
        exact ⟨rfl, dd, fv, vs, rfl, hd, a, fun p hp => k p vs tag ds rfl b hp⟩
    · have h := of_decide_eq_false h
      simp only at h
      unfold metC at e
      rw [if_neg h] at e
      exact wMet_of hd pf (fun y hy => ex y (by simp [hy])) e k
theorem e_met {x : Str} {cs : List Str} {told : Str} {l : Cls} {m : ME} {c P : Addr} {k j : Nat} {params : Arguments} {body : Expr} {scope : Scope} {p lpos pos : Pos} (M : MetD C.K X.mg C.cls x cs told l)
    (TB : TabB X.base X.mg c P) (hcode : X.env.code = .ref c) (hmT : (P, X.env.qual ++ "<lambda>") ∈ C.T) (hu : ∀ p ∈ C.T, p.1 = P → p.2 = X.env.qual ++ "<lambda>") (hr : Room j X.A) 
    (hbody : ∀ (G H0 : Hp) (A : Around) (outer : List Env) (s : Shared) (H : Hp) (E : XK) (f c' : Addr), Room k (A.deeper (lamEnv X scope s.heap.objs.size f c')) → PE (lamCx X A outer s H E scope f c') body (tE (fc0 C.K C.cls G H0) E m))
    (L : LamS X.env.scope scope) (hj : k + 2 ≤ j := by decide) (hK : X.K = C.K := by rfl) (hdef : defaultsOf params X.env = ([], []) := by rfl)
    (hbind : ∀ (q : Str) (cl : List (Str × Addr)) (pm cv ctv : Value), bindArgs (PySem.W.kla_fn "<lambda>" q params body scope cl pm cv ctv) ⟨[], []⟩ = pure [] := by intros; rfl)
    (hg : Gl X x := by rfl) (hdb : (x == ("__debug__" : Str)) = false := by decide) :
    PE X (.Call (.Name x p) [.Lambda params body scope lpos] [] pos) (tE C E (mMet cs told l m)) := by
  obtain ⟨st, a, Ng, g, fd, F, hm, hb, Sg, h0, hv, hd, hcd, gv⟩ := M.ex
  rw [← hK] at F hb
  refine PE.imp (e_lam (t := fun E σ H Q => ∃ G, tE (fc0 C.K C.cls G H) E m σ H Q) F hm hb Sg h0 hv (fun cdv => gv X cdv _ hK rfl) TB hcode hmT hu (hr.mono hj) L (fun A outer s H E f c' hr2 => ⟨fun pins s1 σ H1 Q I h => ?_⟩) hdef hbind hg hdb hd hcd) fun σ H Q h => ?_
  · obtain ⟨G, h⟩ := h
    exact (hbody G H1 A outer s H E f c' hr2).run pins s1 σ H1 Q I h
  · obtain ⟨r, ad, G, s, k⟩ := h
    refine ⟨s.hst.tabs, fun H1 e1 t1 => ?_⟩
    have s1 := s.tab e1 t1
    have sh := s1.hidden
    refine ⟨G, hideO r, ad, G, sh, ?_⟩
    unfold mMet at k
    cases q : m (hideO r) with
    | bad => rw [q] at k; exact k.elim
    | ok d r' =>
      rw [q] at k
      intro v G' H' s' _ pv p hp
      have gr : Grow G H1 G' H' := s'.hst.grow0
      have s2 := s1.grow gr
      have lay := Grow.lay (o := .tup [.str told, v]) s2.hst.sub s2.hst.gnt hp (fun ps z => by cases z)
      exact k _ _ _ (s2.grow lay) ((Kp.tab e1).trans ((Kp.grow gr).trans (Kp.grow lay))) (.tup upd_same (.cons (.str _) (.cons (pv.up lay.g) .nil)))
    | exc c0 fs =>
      rw [q] at k
      simp only at k
      intro dd fv G' H' s' hdd pf
      by_cases hc : c0 ∈ cs
      · rw [if_pos hc] at k
        cases qq : metC fs c0 l with
        | none => rw [qq] at k; exact k.elim
        | some d =>
          rw [qq] at k
          refine wMet_of hdd pf (M.exm c0 hc) qq fun p vs tag ds ed pv hp => ?_
          have gr : Grow G H1 G' H' := Hst.grow0 s'
          have s2 := s1.grow gr
          have lay := Grow.lay (o := .tup (.str tag :: vs)) s2.hst.sub s2.hst.gnt hp (fun ps z => by cases z)
          refine k _ _ _ (s2.grow lay) ((Kp.tab e1).trans ((Kp.grow gr).trans (Kp.grow lay))) ?_
          rw [ed]
          exact .tup upd_same (.cons (.str _) (pv.up lay.g))
      · rw [if_neg hc] at k; exact k.elim
/-- calls inside a lambda's body -/
theorem pxL {Y : Cx} {A : Around} {outer : List Env} {s : Shared} {H : Hp} {E : XK} {scope : Scope} {f c' : Addr} : Passes (L2.CX Y.prog Y.w) (lamCx Y A outer s H E scope f c') E :=
  passes_call (takes_of rfl rfl rfl rfl) (fun _ _ _ _ h => h)
end
end DL

/-! Defs that make lambdas, and the law itself. -/
namespace DL
open PySem PySem.Spec PyProof.Rows L2 LamX

abbrev fcT (K : PySem.W.Frag) (cls : Str → Addr) (T : List (Addr × Str)) (G H : Hp) : Fc := ⟨K, cls, G, H, [], T⟩
def spT (K : PySem.W.Frag) (cls : Str → Addr) (T : List (Addr × Str)) (F : List D → FR) : Sp := fun vs H Q E => ∃ G ds, Same G H ∧ (∀ b ps, G b ≠ some (.tbl ps)) ∧ RpL K G vs ds ∧ Tabs T H ∧
  match F ds with
  | .ok d => ∀ v G' H', Hst (fcT K cls T G H) G' H' → Rp K G' v d → Q v H'
  | .own l => False
  | .exc c fs => ∀ dd fv G' H', Hst (fcT K cls T G H) G' H' → H' dd = some (.xd fv) → RpF K G' fv fs → E (.ref (cls c)) (some dd) H'
  | .bad => False
structure DfnL (K : PySem.W.Frag) (mg : Str → Option Value) (x : Str) (st : Stmt) (ps : List Str) (c : Addr) : Prop where
  ex : ∃ (f : Addr) (oc : Value) (od : Option Addr) (kV doc pm : Value) (an : Option Addr) (ct : Value) (osl : Array (Option Value)),
    K.lookup f = some ⟨oc, od, .func (PySem.W.fnOf x x (defArgs st) (defBody st) (defScope st) .none kV doc pm an (.ref c) ct), osl⟩ ∧ PySem.W.codeIn K (.ref c) x = true ∧ PySem.W.keepIn K (.ref f) = true ∧ mg x = some (.ref f) ∧
      Binds K (PySem.W.fnOf x x (defArgs st) (defBody st) (defScope st) .none kV doc pm an (.ref c) ct) ps []
section
variable {P : Program} {w : World} {K : PySem.W.Frag} {mg : Str → Option Value} {base : Heap} {cls : Str → Addr} {T : List (Addr × Str)}
theorem spT_len {M : MS} {n k : Nat} {vs : List V} {H : Hp} {Q : VK} {E : XK} (h : spT K cls T (runF M n k) vs H Q E) : vs.length = n := by
  obtain ⟨G, ds, _, _, p, _, h⟩ := h
  rw [p.length]
  unfold runF at h
  by_cases e : ds.length = n
  · exact e
  · rw [if_neg e] at h; exact h.elim
theorem dfT {x : Str} {st : Stmt} {N ps : List Str} {M : MS} {c : Addr} (k : Nat) (d : DfnL K mg x st ps c) (S : FnScope N ps (defScope st))
    (hbody : ∀ (f : Addr) (A : Around) (outer : List Env) (s : Shared) (H G : Hp) (E : XK), Room k (A.deeper (envOfC x (defScope st) s.heap.objs.size f (.ref c))) →
      PSs (cxOf (L2.CX P w) P w K mg base N x (defScope st) f (.ref c) A outer s H E) (defBody st) (tS (fcT K cls T G H) E M)) :
    Df P w K mg base (k + 1) x (spT K cls T (runF M ps.length (N.length - ps.length))) := by
  obtain ⟨f, oc, od, kV, doc, pm, an, ct, osl, lk, hc, kp, m, b⟩ := d.ex
  have hpl : ps.length ≤ N.length := by have := congrArg List.length S.pre; rw [List.length_take] at this; omega
  refine ⟨f, _, ps, fn_of lk hc S (fun vs H Q E h => spT_len h) (fun A outer s H vs Q E hr h => ?_), m, kp, b⟩
  have hl' := spT_len h
  obtain ⟨G, ds, sub, gnt, p, tb, h⟩ := h
  have hl : ds.length = ps.length := by rw [← p.length]; exact hl'
  refine ⟨_, hbody f A outer s H G E hr, ?_⟩
  have hst : Hst (fcT K cls T G H) G H := ⟨sub, gnt, Same.refl _, fun _ z => z, fun _ z => z, fun _ _ z _ _ => z, fun _ _ z => z, tb⟩
  have st := stt_start (C := fcT K cls T G H) (N := N) hst p (by rw [hl]; exact hpl)
  refine ⟨_, _, G, st, ?_⟩
  unfold runF at h
  rw [if_pos hl] at h
  rw [hl]
  generalize M (ds.map Sl.dat ++ List.replicate (N.length - ps.length) Sl.un) = z at h
  cases z with
  | nx r => exact fun ad' σ' G' H' s' _ => h .non G' H' s'.hst .non
  | rt d r => exact fun v ad' σ' G' H' s' pv => h v G' H' s'.hst pv
  | rtO l r => exact h.elim
  | exc c fs => exact fun dd fv G' H' s' hd pf => h dd fv G' H' s' hd pf
  | bk r => exact h.elim
  | ct r => exact h.elim
  | bad => exact h.elim
end
section
variable {C : Fc} {r : DEnv} {ad : Nat → Addr} {σ : L2.St} {G H G' H' : Hp}
theorem Hst.step (s : Hst C G H) (w : Hst (fcT C.K C.cls C.T G H) G' H') : Hst C G' H' :=
  ⟨w.sub, w.gnt, s.g0.trans w.g0, fun b n => w.dom b (s.dom b n), fun b n => w.domN b (s.domN b n), fun b o q n t => w.keep b o (s.keep b o q n t) (by simp) t, fun b n z => w.nofz b (s.domN b n) (s.nofz b n z), w.tabs⟩
theorem Stt.step (s : Stt C r ad σ G H) (w : Hst (fcT C.K C.cls C.T G H) G' H') : Stt C r ad σ G' H' := by
  have nt : ∀ {a : Addr} {o : HO}, H a = some o → (∀ ps, o ≠ .tbl ps) → H' a = some o := fun {a o} e n => w.keep a o e (by simp) fun p hp z => by
    obtain ⟨ps, e1, _⟩ := s.hst.tabs p hp
    rw [← z, e] at e1
    exact n ps (Option.some.inj e1)
  refine ⟨s.hst.step w, s.len, fun i d q => ?_, fun i k l q => ?_, fun i t l q => ?_, fun i c l q => ?_, s.inj⟩
  · obtain ⟨v, a, b⟩ := s.dat i d q
    exact ⟨v, a, b.up w.g0⟩
  · obtain ⟨a, b, c, xs, h1, h2⟩ := s.own i k l q
    exact ⟨a, b, w.nofz _ (wr_lst h1) c, xs, nt h1 (fun ps z => by cases z), h2.up w.g0⟩
  · obtain ⟨a, b, c, h1⟩ := s.ownD i t l q
    refine ⟨a, b, w.nofz _ h1.wr c, h1.up w.g0 ?_⟩
    rcases h1 with ⟨_, kvs, q, _⟩ | ⟨_, kvs, q, _⟩ <;> rw [q, nt q (fun ps z => by cases z)]
  · obtain ⟨a, b, c', h1⟩ := s.ownI i c l q
    refine ⟨a, b, w.nofz _ h1.wr c', h1.up w.g0 (fun b u z y => nt z fun ps y' => ?_) fun b z y => w.nofz b (show DL.wr (H b) by rw [z]; trivial) y⟩
    rw [y'] at z y
    rcases y with y | y
    · obtain ⟨_, _, _, _, v, _⟩ := h1
      rw [y, v] at z; cases z
    · cases y
theorem Kp.step (w : Hst (fcT C.K C.cls C.T G H) G' H') : Kp C r r ad G H G' H' :=
  ⟨w.g0, fun _ z => z, fun b n => w.dom b n, fun b n => w.domN b n, fun b u q _ t => w.keep b u q (by simp) t, fun b z y _ => w.nofz b z y⟩
end
section
variable {X : Cx} {C : Fc} {E : XK} {pos : Pos} {x : Str} {p : Pos} {e : Expr} {es : List Expr} {k j : Nat} {F : List D → FR} {a : MA}
def mCallT (F : List D → FR) (a : MA) : ME := fun r => match a r with
  | .ok ds r1 => (match F ds with
    | .ok d => .ok d r1
    | .own _ => .bad
    | .exc c fs => .exc c fs
    | .bad => .bad)
  | .exc c fs => .exc c fs
  | .bad => .bad
theorem tE_callT : ∀ σ H Q, tE C E (mCallT F a) σ H Q → tA C E a σ H (fun vs H1 => spT C.K C.cls C.T F vs H1 Q E) := by
  intro σ H Q ⟨r, ad, G, s, h⟩
  refine ⟨r, ad, G, s, ?_⟩
  unfold mCallT at h
  unfold kA
  cases q : a r with
  | bad => rw [q] at h; exact h
  | exc c fs => rw [q] at h; exact h
  | ok ds r1 =>
    rw [q] at h
    intro vs G1 H1 s1 k1 p1
    refine ⟨G1, ds, s1.hst.sub, s1.hst.gnt, p1, s1.hst.tabs, ?_⟩
    cases z : F ds with
    | ok d =>
      simp only [z] at h ⊢
      exact fun v G' H' w pv => h v G' H' (s1.step w) (k1.trans (Kp.step w)) pv
    | own l => simp only [z] at h ⊢; exact h
    | exc c fs =>
      simp only [z] at h ⊢
      exact fun dd fv G' H' w hd pf => h dd fv G' H' (s1.hst.step w) hd pf
    | bad => simp only [z] at h ⊢; exact h
theorem e_dfT (d : Df X.prog X.w X.K X.mg X.base k x (spT C.K C.cls C.T F)) (hr : Room j X.A) (hx : Passes (L2.CX X.prog X.w) X E) (ha : PA X (e :: es) (tA C E a)) (hk : k ≤ j := by decide) (hg : Gl X x := by rfl) (hdb : (x == ("__debug__" : Str)) = false := by decide)
    (he : starEach (e :: es) X.env = (false, eval e X.env) :: starEach es X.env := by rfl) (hpl : (backTo pos (starEach es X.env)).any (·.1) = false := by rfl) : PE X (.Call (.Name x p) (e :: es) [] pos) (tE C E (mCallT F a)) := by
  obtain ⟨f, fd, ps, o, m, kp, b⟩ := d.ex
  refine PE.imp (pe_call (dvs := []) o (hr.mono hk) hg m kp b .nil hx ha hdb he hpl) fun σ H Q h => ?_
  have q := tE_callT σ H Q h
  simpa only [tCall, List.append_nil] using q
end
/-- the law's own start -/
theorem spT_law {K : PySem.W.Frag} {cls : Str → Addr} {T : List (Addr × Str)} {F : List D → FR} {H : Hp} {a : Addr} {ns : List Int} {E : XK} (hT : ∀ p ∈ T, H p.1 = some (.tbl #[])) (hS : SqL K H a (ns.map V.int)) (hF : F [.scr ns] = .ok (.bl true)) :
    spT K cls T F [.ref a] H (fun v _ => v = .bl true) E := by
  let G : Hp := fun b => match H b with
    | some (.tbl _) => none
    | o => o
  have at_ : ∀ {b o}, H b = some o → (∀ ps, o ≠ .tbl ps) → G b = some o := fun {b o} e n => by
    show (match H b with
      | some (.tbl _) => none
      | o => o) = some o
    rw [e]
    cases o <;> first | rfl | exact absurd rfl (n _)
  refine ⟨G, [.scr ns], fun b o e => ?_, fun b ps e => ?_, .cons (.scr ?_) .nil, fun p hp => TabS.nil (hT p hp), ?_⟩
  · have e' : (match H b with
      | some (.tbl _) => none
      | o => o) = some o := e
    split at e'
    · cases e'
    · exact e'
  · have e' : (match H b with
      | some (.tbl _) => none
      | o => o) = some (.tbl ps) := e
    split at e'
    · cases e'
    · rename_i n; exact n _ e'
  · rcases hS with (h | ⟨o, h⟩) | h
    · exact .inl (.inl (at_ h (fun ps z => by cases z)))
    · exact .inl (.inr ⟨o, at_ h (fun ps z => by cases z)⟩)
    · exact .inr h
  · rw [hF]
    intro v G' H' _ pv
    cases pv
    rfl
end DL

/-! Defs with defaults, called by place and by keywords. -/
namespace DL
open PySem PySem.Spec PyProof.Rows L2 LamX

/-- where a parameter's value comes from: by place, a default, a keyword -/
inductive Sel where
  | p (i : Nat)
  | d (i : Nat)
  | k (i : Nat)
def Sel.of {α : Type} (us its ws : List α) : Sel → Option α
  | .p i => us[i]?
  | .d i => its[i]?
  | .k i => ws[i]?
def pick {α : Type} (sel : List Sel) (us its ws : List α) : List α := sel.filterMap (Sel.of us its ws)
theorem paired_at {α β : Type} {R : α → β → Prop} : ∀ {l : List α} {m : List β}, Paired R l m → ∀ i : Nat, (l[i]? = none ∧ m[i]? = none) ∨ ∃ a b, l[i]? = some a ∧ m[i]? = some b ∧ R a b
  | _, _, .nil, i => .inl ⟨by simp, by simp⟩
  | _, _, .cons h t, 0 => .inr ⟨_, _, rfl, rfl, h⟩
  | _, _, .cons h t, i + 1 => by simpa using paired_at t i
theorem rpL_at {K : PySem.W.Frag} {G : Hp} : ∀ {l : List V} {m : List D}, RpL K G l m → ∀ i : Nat, (l[i]? = none ∧ m[i]? = none) ∨ ∃ a b, l[i]? = some a ∧ m[i]? = some b ∧ Rp K G a b
  | _, _, .nil, i => .inl ⟨by simp, by simp⟩
  | _, _, .cons h t, 0 => .inr ⟨_, _, rfl, rfl, h⟩
  | _, _, .cons h t, i + 1 => by simpa using rpL_at t i
theorem pick_vals {vs its' zs : List V} {us its ws : List Value} (h1 : Vals vs us) (h2 : Vals its' its) (h3 : Vals zs ws) : ∀ sel, Vals (pick sel vs its' zs) (pick sel us its ws)
  | [] => .nil
  | x :: sel => by
    have r := pick_vals h1 h2 h3 sel
    have one : (Sel.of vs its' zs x = none ∧ Sel.of us its ws x = none) ∨ ∃ a b, Sel.of vs its' zs x = some a ∧ Sel.of us its ws x = some b ∧ RelV a b := by
      cases x with
      | p i => exact paired_at h1 i
      | d i => exact paired_at h2 i
      | k i => exact paired_at h3 i
    unfold pick at r ⊢
    rcases one with ⟨a, b⟩ | ⟨a, b, e1, e2, q⟩
    · rw [List.filterMap_cons_none a, List.filterMap_cons_none b]; exact r
    · rw [List.filterMap_cons_some e1, List.filterMap_cons_some e2]; exact .cons q r
theorem pick_rp {K : PySem.W.Frag} {G : Hp} {vs its' zs : List V} {us its ws : List D} (h1 : RpL K G vs us) (h2 : RpL K G its' its) (h3 : RpL K G zs ws) : ∀ sel, RpL K G (pick sel vs its' zs) (pick sel us its ws)
  | [] => .nil
  | x :: sel => by
    have r := pick_rp h1 h2 h3 sel
    have one : (Sel.of vs its' zs x = none ∧ Sel.of us its ws x = none) ∨ ∃ a b, Sel.of vs its' zs x = some a ∧ Sel.of us its ws x = some b ∧ Rp K G a b := by
      cases x with
      | p i => exact rpL_at h1 i
      | d i => exact rpL_at h2 i
      | k i => exact rpL_at h3 i
    unfold pick at r ⊢
    rcases one with ⟨a, b⟩ | ⟨a, b, e1, e2, q⟩
    · rw [List.filterMap_cons_none a, List.filterMap_cons_none b]; exact r
    · rw [List.filterMap_cons_some e1, List.filterMap_cons_some e2]; exact .cons q r
section
variable {K : PySem.W.Frag} {x qual : Str} {params : Arguments} {body : List Stmt} {scope : Scope} {dvs : List V} {f : Addr} {fd : FuncData} {ps ks : List Str} {sel : List Sel} {n : Nat}
theorem bindK (F : FunD K x qual params body scope dvs [] f fd) (hd : dvs ≠ [])
    (h : ∀ (T : Addr) (kV doc pm : Value) (an : Option Addr) (cdv ct : Value) (us its ws : List Value), us.length = n → its.length = dvs.length → ws.length = ks.length →
      ∃ k, bindArgs (PySem.W.fnOf x qual params body scope (.ref T) kV doc pm an cdv ct) ⟨us, ks.zip ws⟩ = seqItems? (.ref T) >>= k ∧ k (some its.toArray) = pure (ps.zip (pick sel us its ws))) :
    ∃ its, KBn K fd ps n ks (fun us ws => pick sel us its ws) (fun vs zs => pick sel vs dvs zs) := by
  obtain ⟨oc, od, dV, kV, doc, pm, an, cdv, ct, osl, rfl, lk, hcd, hD, _⟩ := F.ex
  rcases hD with ⟨e, _⟩ | ⟨_, T, o, its, m, rfl, lT, oT, rT⟩
  · exact absurd e hd
  · refine ⟨its, ⟨fun s us ws X l1 l2 => ?_, fun r1 r2 => pick_vals r1 rT r2 sel⟩⟩
    obtain ⟨k, e1, e2⟩ := h T kV doc pm an cdv ct us its ws l1 rT.length.symm l2
    refine BindsTo.of_looks fun M => ?_
    rw [e1]
    exact looks_items X lT oT (.of_pure e2)
end
/-- a def with defaults as the top has left it -/
structure DfnD (K : PySem.W.Frag) (mg : Str → Option Value) (x : Str) (st : Stmt) (dvs : List V) : Prop where
  ex : ∃ f fd, FunD K x x (defArgs st) (defBody st) (defScope st) dvs [] f fd ∧ mg x = some (.ref f)
structure DfD (P : Program) (w : World) (K : PySem.W.Frag) (mg : Str → Option Value) (base : Heap) (k : Nat) (x : Str) (st : Stmt) (dvs : List V) (ps : List Str) (sp : Sp) : Prop where
  ex : ∃ f fd, FnOk P w K mg base (L2.CX P w) k f fd ps sp ∧ mg x = some (.ref f) ∧ FunD K x x (defArgs st) (defBody st) (defScope st) dvs [] f fd
section
variable {P : Program} {w : World} {K : PySem.W.Frag} {mg : Str → Option Value} {base : Heap} {cls : Str → Addr}
theorem dfD {x : Str} {st : Stmt} {N ps : List Str} {M : MS} {dvs : List V} (k : Nat) (d : DfnD K mg x st dvs) (S : FnScope N ps (defScope st))
    (hbody : ∀ (f : Addr) (cdv : Value) (A : Around) (outer : List Env) (s : Shared) (H G : Hp) (E : XK), Room k (A.deeper (envOfC x (defScope st) s.heap.objs.size f cdv)) →
      PSs (cxOf (L2.CX P w) P w K mg base N x (defScope st) f cdv A outer s H E) (defBody st) (tS (fc0 K cls G H) E M)) :
    DfD P w K mg base (k + 1) x st dvs ps (spF K cls (runF M ps.length (N.length - ps.length))) := by
  obtain ⟨f, fd, F, m⟩ := d.ex
  have hpl : ps.length ≤ N.length := by have := congrArg List.length S.pre; rw [List.length_take] at this; omega
  refine ⟨f, fd, F.ok S (fun vs H Q E h => ?_) (fun cdv A outer s H vs Q E hr h => ?_), m, F⟩
  · obtain ⟨G, ds, _, _, p, h⟩ := h
    rw [p.length]
    unfold runF at h
    by_cases e : ds.length = ps.length
    · exact e
    · rw [if_neg e] at h; exact h.elim
  · obtain ⟨G, ds, sub, gnt, p, h⟩ := h
    refine ⟨_, hbody f cdv A outer s H G E hr, ?_⟩
    have hl : ds.length = ps.length := by
      unfold runF at h
      by_cases e : ds.length = ps.length
      · exact e
      · rw [if_neg e] at h; exact h.elim
    have hst : Hst (fc0 K cls G H) G H := ⟨sub, gnt, Same.refl _, fun _ z => z, fun _ z => z, fun _ _ z _ _ => z, fun _ _ z => z, fun p hp => by cases hp⟩
    have st := stt_start (C := fc0 K cls G H) (N := N) hst p (by rw [hl]; exact hpl)
    refine ⟨_, _, G, st, ?_⟩
    unfold runF at h
    rw [if_pos hl] at h
    rw [hl]
    generalize M (ds.map Sl.dat ++ List.replicate (N.length - ps.length) Sl.un) = z at h
    cases z with
    | nx r => exact fun ad' σ' G' H' s' _ => h .non G' H' s'.hst.grow0 .non
    | rt d r => exact fun v ad' σ' G' H' s' pv => h v G' H' s'.hst.grow0 pv
    | rtO l r => exact fun p xs ad' σ' G' H' s' np h0 g' h' pv => h p xs G' H' s'.hst.grow0 h0 g' h' pv
    | exc c fs => exact fun dd fv G' H' s' hd pf => h dd fv G' H' s'.grow0 hd pf
    | bk r => exact h.elim
    | ct r => exact h.elim
    | bad => exact h.elim
end
def mCallK (F : List D → FR) (sel : List Sel) (dd : List D) (n m : Nat) (a b : MA) : ME := fun r => match a r with
  | .ok ds r1 => (match b r1 with
    | .ok zs r2 => if ds.length = n ∧ zs.length = m then (match F (pick sel ds dd zs) with
      | .ok d => .ok d r2
      | .own _ => .bad
      | .exc c fs => .exc c fs
      | .bad => .bad) else .bad
    | .exc c fs => .exc c fs
    | .bad => .bad)
  | .exc c fs => .exc c fs
  | .bad => .bad
section
variable {X : Cx} {C : Fc} {E : XK} {pos kpos : Pos} {x : Str} {p : Pos} {e : Expr} {es : List Expr} {kws : List Keyword} {k j n : Nat} {F : List D → FR} {a b : MA} {st : Stmt} {dvs : List V} {dd : List D} {ps ks : List Str} {sel : List Sel} {nm : Option Str}
theorem k_nil : PK X [] (tA C E aNil) := ⟨fun pos pins s σ H Q I ⟨r, ad, G, st, k⟩ => pk_nil.run pos pins s σ H Q I (k [] G H st (Kp.refl _ _ _ _ _) .nil)⟩
theorem k_cons {me : ME} (ha : PE X e (tE C E me)) (hb : PK X kws (tA C E b)) : PK X (⟨nm, e, kpos⟩ :: kws) (tA C E (aCons me b)) := by
  refine ⟨fun pos pins s σ H Q I ⟨r, ad, G, s0, k⟩ => (pk_cons ha hb).run pos pins s σ H Q I ⟨r, ad, G, s0, ?_⟩⟩
  unfold aCons at k
  cases ea : me r with
  | bad => rw [ea] at k; exact k.elim
  | exc c fs => rw [ea] at k; exact k
  | ok x r1 =>
    rw [ea] at k
    intro v G1 H1 s1 g1 p1
    refine ⟨r1, ad, G1, s1, ?_⟩
    cases eb : b r1 with
    | bad => simp only [eb] at k; exact k.elim
    | exc c fs => simp only [eb] at k; exact k
    | ok l r2 =>
      simp only [eb] at k
      intro vs G2 H2 s2 g2 p2
      exact k (v :: vs) G2 H2 s2 (g1.trans g2) (.cons (p1.up g2.g) p2)
theorem e_dk (d : DfD X.prog X.w X.K X.mg X.base k x st dvs ps (spF C.K C.cls F)) (hr : Room j X.A) (hx : Passes (L2.CX X.prog X.w) X E) (ha : PA X (e :: es) (tA C E a)) (hb : PK X kws (tA C E b)) (hdv : ∀ G, RpL C.K G dvs dd)
    (bk : ∀ f fd, FunD X.K x x (defArgs st) (defBody st) (defScope st) dvs [] f fd → ∃ its, KBn X.K fd ps n ks (fun us ws => pick sel us its ws) (fun vs zs => pick sel vs dvs zs))
    (hk : k ≤ j := by decide) (hg : Gl X x := by rfl) (hdb : (x == ("__debug__" : Str)) = false := by decide) (hall : (backToKw pos (keywordEach kws X.env)).all (·.1.isSome) = true := by rfl) (hks : (backToKw pos (keywordEach kws X.env)).filterMap (·.1) = ks := by rfl)
    (he : starEach (e :: es) X.env = (false, eval e X.env) :: starEach es X.env := by rfl) (hpl : ((backTo pos (starEach (e :: es) X.env)).any (·.1) || (backToKw pos (keywordEach kws X.env)).any (·.1.isNone)) = false := by rfl) :
    PE X (.Call (.Name x p) (e :: es) kws pos) (tE C E (mCallK F sel dd n ks.length a b)) := by
  obtain ⟨f, fd, o, m, fn⟩ := d.ex
  obtain ⟨its, kb⟩ := bk f fd fn
  refine PE.imp (pe_callN o (hr.mono hk) hg m fn.kp kb hx ha hb hall hks hdb he hpl) fun σ H Q h => ?_
  obtain ⟨r, ad, G, s, h⟩ := h
  refine ⟨r, ad, G, s, ?_⟩
  unfold mCallK at h
  cases q : a r with
  | bad => rw [q] at h; exact h.elim
  | exc c fs => rw [q] at h; exact h
  | ok ds r1 =>
    rw [q] at h
    simp only at h
    intro vs G1 H1 s1 k1 p1
    refine ⟨r1, ad, G1, s1, ?_⟩
    cases q2 : b r1 with
    | bad => rw [q2] at h; exact h.elim
    | exc c fs => rw [q2] at h; exact h
    | ok zs r2 =>
      rw [q2] at h
      simp only at h
      intro us G2 H2 s2 k2 p2
      by_cases hl : ds.length = n ∧ zs.length = ks.length
      · rw [if_pos hl] at h
        refine ⟨by rw [p1.length]; exact hl.1, by rw [p2.length]; exact hl.2, G2, _, s2.hst.sub, s2.hst.gnt, pick_rp (p1.up k2.g) (hdv G2) p2 sel, ?_⟩
        cases z : F (pick sel ds dd zs) with
        | ok d =>
          simp only [z] at h ⊢
          exact fun v G' H' gr pv => h v G' H' (s2.grow gr) ((k1.trans k2).trans (Kp.grow gr)) pv
        | own l => simp only [z] at h; exact h.elim
        | exc c fs =>
          simp only [z] at h ⊢
          exact fun dd fv G' H' gr hd pf => h dd fv G' H' (s2.hst.grow gr) hd pf
        | bad => simp only [z] at h ⊢; exact h
      · rw [if_neg hl] at h; exact h.elim
end
end DL

/-! sorted(l) and sorted(l, key=f), f a def of the text. -/
namespace DL
open PySem PySem.Spec PyProof.Rows L2 LamX

theorem Un.off {fs : List Addr} {H H1 : Hp} {h h1 h2 : Heap} (u : Un fs [] H H1 h h1) (k : ∀ b o o', h.get? b = some o' → h1.get? b = some o → h2.get? b = some o) : Un fs [] H H1 h h2 where
  keep := fun b o q n hf hx => k b o o q (u.keep b o q n hf hx)
  slot := fun b o q n hf hx => by
    obtain ⟨sl, e⟩ := u.slot b o q n hf hx
    exact ⟨sl, k b _ o q e⟩
  free := u.free
  there := fun b o q hx => by
    obtain ⟨o', e⟩ := u.there b o q hx
    exact ⟨o', k b o' o q e⟩
  tups := u.tups
  frzs := u.frzs
  tbls := u.tbls
/-- what is new may be tracked -/
theorem Un.put {fs : List Addr} {H H1 : Hp} {h h1 : Heap} {a : Addr} {o : HO} (u : Un fs [] H H1 h h1) (hn : h.get? a = none) (hH : H a = none) : Un fs [] H (upd H1 a o) h h1 where
  keep := u.keep
  slot := u.slot
  free := fun b ob q n hx => by
    rw [upd_ne (fun z => by rw [z, hn] at q; cases q)]
    exact u.free b ob q n hx
  there := u.there
  tups := fun b xs q => by rw [upd_ne (ne_of_none q hH)]; exact u.tups b xs q
  frzs := fun b ob v q => by rw [upd_ne (ne_of_none q hH)]; exact u.frzs b ob v q
  tbls := fun b ps q => by rw [upd_ne (ne_of_none q hH)]; exact u.tbls b ps q
/-- an untracked object changes -/
theorem hok_off {P : Program} {w : World} {H : Hp} {h h' : Heap} {c : Addr} (x : HOk P w H h) (hc : H c = none) (k : ∀ b o, b ≠ c → h.get? b = some o → h'.get? b = some o) : HOk P w H h' := fun a o e =>
  (x a o e).stay (fun b u hb q => k b u (fun z => by
    rcases hb with hb | hb
    · rw [← hb, z, hc] at e; cases e
    · rw [z, hc] at hb; cases hb) q) (fun _ q => q) fun _ _ q => q

/-! ### a sort that computes -/
def insD {α : Type} (le : α → α → Bool) (x : α) : List α → List α
  | [] => [x]
  | y :: l => if le x y then x :: y :: l else y :: insD le x l
def isort {α : Type} (le : α → α → Bool) : List α → List α
  | [] => []
  | x :: l => insD le x (isort le l)
theorem insD_at {α : Type} {le : α → α → Bool} {x : α} : ∀ {l₁ l₂ : List α}, (∀ b ∈ l₁, le x b = false) → (∀ b ∈ l₂, le x b = true) → insD le x (l₁ ++ l₂) = l₁ ++ x :: l₂
  | [], [], _, _ => rfl
  | [], y :: l, _, h => by simp [insD, h y (by simp)]
  | y :: l₁, l₂, h1, h2 => by
    simp only [List.cons_append, insD]
    rw [h1 y (by simp)]
    simp [insD_at (l₁ := l₁) (l₂ := l₂) (fun b hb => h1 b (by simp [hb])) h2]
theorem isort_eq {α : Type} {le : α → α → Bool} (tr : ∀ a b c : α, le a b = true → le b c = true → le a c = true) (to : ∀ a b : α, (le a b || le b a) = true) : ∀ l : List α, l.mergeSort le = isort le l
  | [] => by simp [isort]
  | x :: l => by
    obtain ⟨l₁, l₂, e1, e2, e3⟩ := List.mergeSort_cons tr to x l
    have s := List.pairwise_mergeSort tr to (x :: l)
    rw [e1] at s
    have s2 : ∀ b ∈ l₂, le x b = true := (List.pairwise_cons.mp (List.pairwise_append.mp s).2.1).1
    rw [e1, isort, ← isort_eq tr to l, e2]
    exact (insD_at (fun b hb => by simpa using e3 b hb) s2).symm
theorem isort_dl {α : Type} (k : α → PyData) (l : List α) : isort (PySem.W.dataLe false k) l = l.mergeSort (PySem.W.dataLe false k) :=
  (isort_eq (PySem.W.sortLe_total _ false _).trans (fun a b => by rw [Bool.or_eq_true]; exact (PySem.W.sortLe_total _ false _).total a b) l).symm
/-! ### the keys -/
def keysD (F : List D → FR) : List D → Option (List D)
  | [] => some []
  | d :: l => match F [d], keysD F l with
    | .ok k, some ks => some (k :: ks)
    | _, _ => none
theorem keysD_at {F : List D → FR} : ∀ {l ks : List D}, keysD F l = some ks → l.length = ks.length ∧ ∀ (i : Nat) d, l[i]? = some d → ∃ k, ks[i]? = some k ∧ F [d] = .ok k
  | [], _, e => by cases e; exact ⟨rfl, fun i d h => by simp at h⟩
  | d :: l, _, e => by
    unfold keysD at e
    split at e
    · rename_i k ks e1 e2
      cases e
      obtain ⟨a, b⟩ := keysD_at e2
      refine ⟨by simp [a], fun i x h => ?_⟩
      cases i with
      | zero => simp at h; subst h; exact ⟨k, rfl, e1⟩
      | succ i => simpa using b i x (by simpa using h)
    · cases e
def alikeL : List PyData → Bool
  | [] => true
  | d :: l => PySem.W.alike d d && (l.all fun e => PySem.W.alike d e && PySem.W.alike e d) && alikeL l
theorem alikeL_all : ∀ {l : List PyData}, alikeL l = true → PySem.W.AllAlike l
  | [], _, d, hd, _, _ => by cases hd
  | x :: l, h, d, hd, d', hd' => by
    unfold alikeL at h
    simp only [Bool.and_eq_true, List.all_eq_true] at h
    obtain ⟨⟨h1, h2⟩, h3⟩ := h
    rcases List.mem_cons.mp hd with e | e <;> rcases List.mem_cons.mp hd' with e' | e'
    · rw [e, e']; exact h1
    · rw [e]; exact (h2 _ e').1
    · rw [e']; exact (h2 _ e).2
    · exact alikeL_all h3 d e d' e'
def isTupP : PyData → Bool
  | .tuple (_ :: _) => true
  | _ => false
def isPlainP : PyData → Bool
  | .none => false
  | .tuple _ => false
  | _ => true
def okSort (l : List PyData) : Bool := alikeL l && (l.all isTupP || l.all isPlainP) && decide (l.length ≤ 1000) && l.all fun d => decide (d.depth ≤ 50) && d.canLay0
theorem okSort_of {l : List PyData} (h : okSort l = true) : PySem.W.AllAlike l ∧ PySem.W.Sortable l ∧ l.length ≤ 1000 ∧ ∀ d ∈ l, d.depth ≤ 50 ∧ d.canLay0 = true := by
  unfold okSort at h
  simp only [Bool.and_eq_true, Bool.or_eq_true, List.all_eq_true, decide_eq_true_eq] at h
  obtain ⟨⟨⟨h1, h2⟩, h3⟩, h4⟩ := h
  refine ⟨alikeL_all h1, ?_, h3, h4⟩
  rcases h2 with h2 | h2
  · refine .inl fun d hd => ?_
    have := h2 d hd
    unfold isTupP at this
    split at this
    · exact ⟨_, _, rfl⟩
    · cases this
  · refine .inr fun d hd => ?_
    have := h2 d hd
    unfold isPlainP at this
    split at this
    · cases this
    · cases this
    · rename_i a b; exact ⟨fun z => a z, fun xs z => b xs z⟩
def sortD (ds ks : List D) : List D := (isort (PySem.W.dataLe false fun b : D × D => toP b.2) (ds.zip ks)).map (·.1)
theorem rpL_map {α : Type} {K : PySem.W.Frag} {G : Hp} {f : α → V} {g : α → D} : ∀ {l : List α}, (∀ b ∈ l, Rp K G (f b) (g b)) → RpL K G (l.map f) (l.map g)
  | [], _ => .nil
  | x :: l, h => .cons (h x (by simp)) (rpL_map fun b hb => h b (by simp [hb]))
abbrev B3 := (V × D) × D
def b3 : List V → List D → List D → List B3
  | v :: vs, d :: ds, k :: ks => ((v, d), k) :: b3 vs ds ks
  | _, _, _ => []
theorem b3_zip : ∀ {vs : List V} {ds ks : List D}, vs.length = ds.length → (b3 vs ds ks).map (fun b => (b.1.2, b.2)) = ds.zip ks
  | [], [], _, _ => by simp [b3]
  | v :: vs, d :: ds, [], _ => by simp [b3]
  | v :: vs, d :: ds, k :: ks, h => by simp [b3, b3_zip (vs := vs) (ds := ds) (ks := ks) (by simpa using h)]
  | [], d :: ds, _, h => by simp at h
  | v :: vs, [], _, h => by simp at h
theorem b3_keys : ∀ {vs : List V} {ds ks : List D}, vs.length = ks.length → ds.length = ks.length → (b3 vs ds ks).map (fun b => b.2) = ks
  | [], _, [], _, _ => by simp [b3]
  | v :: vs, d :: ds, k :: ks, h, h' => by simp [b3, b3_keys (vs := vs) (ds := ds) (ks := ks) (by simpa using h) (by simpa using h')]
  | [], _, k :: ks, h, _ => by simp at h
  | v :: vs, _, [], h, _ => by simp at h
  | v :: vs, [], k :: ks, _, h => by simp at h
theorem b3_rp {K : PySem.W.Frag} {G : Hp} : ∀ {vs : List V} {ds ks : List D}, RpL K G vs ds → ∀ b ∈ b3 vs ds ks, Rp K G b.1.1 b.1.2
  | _, _, ks, .nil => fun b hb => by simp [b3] at hb
  | _, _, [], .cons _ _ => fun b hb => by simp [b3] at hb
  | _, _, k :: ks, .cons p q => fun b hb => by
    simp only [b3, List.mem_cons] at hb
    rcases hb with rfl | hb
    · exact p
    · exact b3_rp q b hb
theorem b3_each : ∀ {vs : List V} {us : List Value} {ds ks : List D}, Vals vs us → vs.length = ds.length → ds.length = ks.length → PySem.W.EachIs (fun u (b : B3) => RelV b.1.1 u) us (b3 vs ds ks)
  | _, _, [], [], .nil, _, _ => .nil
  | _, _, d :: ds, k :: ks, .cons p q, h, h' => .cons p (b3_each q (by simpa using h) (by simpa using h'))
  | _, _, d :: ds, [], _, _, h => by simp at h
  | _, _, [], k :: ks, _, _, h => by simp at h
  | _, _, d :: ds, _, .nil, h, _ => by simp at h
  | _, _, [], _, .cons _ _, h, _ => by simp at h
theorem each_vals : ∀ {out : List Value} {l : List B3}, PySem.W.EachIs (fun u (b : B3) => RelV b.1.1 u) out l → Vals (l.map fun b => b.1.1) out
  | _, _, .nil => .nil
  | _, _, .cons p q => .cons p (each_vals q)
theorem sortD_b3 {vs : List V} {ds ks : List D} (h : vs.length = ds.length) : ((b3 vs ds ks).mergeSort (PySem.W.dataLe false fun b : B3 => toP b.2)).map (fun b => b.1.2) = sortD ds ks := by
  unfold sortD
  rw [isort_dl, ← b3_zip h, ← List.map_mergeSort (r := PySem.W.dataLe false fun b : B3 => toP b.2) (f := fun b : B3 => (b.1.2, b.2)) (fun a _ b _ => rfl), List.map_map]
  rfl
theorem toPs_map : ∀ l : List D, toPs l = l.map toP
  | [] => by simp [toPs]
  | d :: l => by simp [toPs, toPs_map l]
theorem canAll_of : ∀ {l : List D}, (∀ d ∈ l.map toP, d.canLay0 = true) → PyData.canLayAll0 (toPs l) = true
  | [], _ => by simp [toPs, PyData.canLayAll0]
  | d :: l, h => by
    rw [toPs]
    unfold PyData.canLayAll0
    rw [h (toP d) (by simp), canAll_of (l := l) fun e he => h e (by simp at he ⊢; exact .inr he)]
    rfl
theorem reads_each {h : Heap} : ∀ {us : List Value} {ds : List PyData} {as : List Addr}, ReadsAll h us ds as → PySem.W.EachIs (fun v d => ∃ as, Reads h v d as) us ds := by
  intro us ds as r
  exact PySem.W.readsAll_each (h := h) (β := PyData) (fun d => d) (vs := us) (bs := ds) (as := as) (by rw [List.map_id']; exact r)
section
variable {X : Cx} {pins : List (Addr × Obj)} {σ : L2.St} {H G : Hp} {s : Shared} {cls : Str → Addr} {F : List D → FR}
theorem far_stack (I : Inv X pins σ H s) {f : Addr} (hf : s.heap.objs.size ≤ f) : f ∉ frs X.stack := fun z => by
  rcases List.mem_cons.mp (I.stkSub _ z) with e | e
  · have lt := I.lt
    rw [← e] at lt
    exact absurd (Nat.lt_of_lt_of_le lt hf) (Nat.lt_irrefl _)
  · exact I.nofs hf e
/-- between the calls: what has been since s -/
structure Mid (X : Cx) (H G : Hp) (s : Shared) (a kS e1 : Nat) (kds : List D) (s' : Shared) : Prop where
  ex : ∃ (H' G' : Hp) (ks : List V) (kA : Array Value) (e : Nat), s'.os = s.os ∧ AllBare s'.gens ∧ Un (frs X.stack) [] H H' s.heap s'.heap ∧ HOk X.prog X.w H' s'.heap ∧ Grow G H G' H' ∧ s'.heap.get? kS = some (seqObj "list" kA e) ∧
    s'.heap.get? a = some (seqObj "list" #[] e1) ∧ H' kS = none ∧ H' a = none ∧ Vals ks kA.toList ∧ RpL X.K G' ks kds
theorem sortK_run {l f : Addr} {fd : FuncData} {ps : List Str} {k j : Nat} {xs : List V} {ds kds : List D} {Q : VK} (I : Inv X pins σ H s) (Fn : FnOk X.prog X.w X.K X.mg X.base (L2.CX X.prog X.w) k f fd ps (spF X.K cls F)) (hr : Room j X.A) (hk : k + 2 ≤ j) (hb : Binds X.K fd ps [])
    (sub : Same G H) (gnt : ∀ b ps, G b ≠ some (.tbl ps)) (hl : SqL X.K H l xs) (hx : RpL X.K G xs ds) (hks : keysD F ds = some kds) (hok : okSort (kds.map toP) = true)
    (q : ∀ p vs G' H', Grow G H G' H' → H p = none → H' p = none → RpL X.K G' vs (sortD ds kds) → Q (.ref p) (upd H' p (.lst vs))) :
    wpAny (model X.prog X.w) X.A (call (.builtin "sorted") [.ref l] [(Str.ofString "key", .ref f)]) (EP X pins σ Q) X.xe s := by
  obtain ⟨us, rv, hl1, hz⟩ := I.list hl
  obtain ⟨hlen, hkey⟩ := keysD_at hks
  obtain ⟨hal, hsk, hl1000, hdep⟩ := okSort_of hok
  have lus : us.length = kds.length := by rw [← rv.length, hx.length, hlen]
  have hZ : us.length ≤ sizeLine := by rw [← rv.length]; exact hz
  refine PySem.W.sorted_of_sort hl1.isList hZ (ksk_s1 _ _) (fun _ => ksk_l1 _ _) fun E' => ?_
  rw [ksk_t1]
  have ho : (PySem.W.copyHeap s.heap us).get? (s.heap.objs.size + 1) = some (seqObj "list" us.toArray 0) := PySem.W.copyHeap_at _ _
  have ha : s.heap.objs.size + 1 < (PySem.W.copyHeap s.heap us).objs.size := Heap.lt_size ho
  obtain ⟨e1, ho1⟩ : ∃ e1, ((PySem.W.copyHeap s.heap us).update (s.heap.objs.size + 1) (Obj.mapSeq fun _ => (#[] : Array Value))).get? (s.heap.objs.size + 1) = some (seqObj "list" #[] e1) := ⟨_, get?_update_seq ho fun _ => #[]⟩
  have hkS : (((PySem.W.copyHeap s.heap us).update (s.heap.objs.size + 1) (Obj.mapSeq fun _ => (#[] : Array Value))).push (seqObj "tuple" us.toArray 0)).objs.size = (PySem.W.copyHeap s.heap us).objs.size + 1 := by rw [size_push', Heap.size_update]
  unfold ksk_tree
  refine wpAny_bind (listItems_at ho rfl ?_)
  refine wpAny_bind (listUpdate_at ho rfl ?_ (by rw [List.size_toArray]; exact hZ) (Nat.zero_le _))
  refine wpAny_bind (seqEpoch_at ho1 rfl ?_)
  refine wpAny_bind (wpAny_newTuple ?_ (by show us.length ≤ _; exact hZ))
  refine wpAny_bind (wpAny_newList ?_ (Nat.zero_le _))
  refine wpAny_holding ?_
  generalize ekS : (((PySem.W.copyHeap s.heap us).update (s.heap.objs.size + 1) (Obj.mapSeq fun _ => (#[] : Array Value))).push (seqObj "tuple" us.toArray 0)).objs.size = kS at hkS
  have big : s.heap.objs.size ≤ kS := by rw [hkS]; exact Nat.le_of_lt (Nat.lt_of_lt_of_le (Nat.lt_of_lt_of_le (Nat.lt_succ_self _) (Nat.le_of_lt ha)) (Nat.le_succ _))
  have kSa : kS ≠ s.heap.objs.size + 1 := by rw [hkS]; exact Nat.ne_of_gt (Nat.lt_succ_of_lt ha)
  have old : ∀ b o, s.heap.get? b = some o → (((PySem.W.copyHeap s.heap us).update (s.heap.objs.size + 1) (Obj.mapSeq fun _ => (#[] : Array Value))).push (seqObj "tuple" us.toArray 0) |>.push (seqObj "list" #[] 0)).get? b = some o := fun b o e =>
    Heap.get?_push_of_some _ (Heap.get?_push_of_some _ ((Heap.get?_update_ne _ _ _ _ (Nat.ne_of_lt (Nat.lt_succ_of_lt (Heap.lt_size e)))).trans (PySem.W.copyHeap_old e)))
  have start : Mid X H G s (s.heap.objs.size + 1) kS e1 [] { s with heap := ((PySem.W.copyHeap s.heap us).update (s.heap.objs.size + 1) (Obj.mapSeq fun _ => (#[] : Array Value))).push (seqObj "tuple" us.toArray 0) |>.push (seqObj "list" #[] 0) } :=
    ⟨H, G, [], #[], 0, rfl, I.bare, Un.kept old, I.hok.kept old, ⟨Same.refl _, Same.refl _, sub, gnt, fun _ _ z => z⟩, (by rw [← ekS]; exact Heap.get?_push_size _ rfl), Heap.get?_push_of_some _ (Heap.get?_push_of_some _ ho1), I.hok.fresh big, I.hok.fresh (Nat.le_succ _), .nil, .nil⟩
  unfold ksk_rest
  refine wpAny_bind (wpAny_rule ?_)
  first
    | rw [List.forIn_toArray]
    | (rw [← Array.forIn_toList]; simp only [List.toList_toArray])
    | rw [← Array.forIn_toList]
  refine wpAny_bind (ksk_fold (fun i s' => Mid X H G s (s.heap.objs.size + 1) kS e1 (kds.take i) s') us 0 _ (by rw [List.take_zero]; exact start) ?step ?done)
  case step =>
    intro i x s' hxi hM
    rw [Nat.zero_add] at hM ⊢
    obtain ⟨H', G', ks, kA, e, os, bare, un, hok', gr, nk, na, fk, fa, rk, pk⟩ := hM.ex
    have li : i < us.length := lt_of_get hxi
    have J : Inv X pins σ H' s' := I.call' (ch := []) os un hok' bare (fun b z => absurd z (by simp))
    obtain ⟨xv, exv, rxv⟩ : ∃ xv, xs[i]? = some xv ∧ RelV xv x := by
      rcases paired_at rv i with ⟨_, z⟩ | ⟨p, r, e1, e2, e3⟩
      · rw [z] at hxi; cases hxi
      · rw [hxi] at e2; cases e2; exact ⟨p, e1, e3⟩
    obtain ⟨d, ed, pd⟩ : ∃ d, ds[i]? = some d ∧ Rp X.K G xv d := by
      rcases rpL_at hx i with ⟨z, _⟩ | ⟨p, r, e1, e2, e3⟩
      · rw [z] at exv; cases exv
      · rw [exv] at e1; cases e1; exact ⟨r, e2, e3⟩
    obtain ⟨kd, ekd, eF⟩ := hkey i d ed
    have hsp : spF X.K cls F [xv] H' (fun v H2 => ∃ G2, Grow G' H' G2 H2 ∧ Rp X.K G2 v kd) (fun _ _ _ => False) := by
      refine ⟨G', [d], gr.sub, gr.gnt, .cons (pd.up gr.g) .nil, ?_⟩
      rw [eF]
      exact fun v G2 H2 g2 p2 => ⟨G2, g2, p2⟩
    have room : Room k X.A.in1.in1 := (((hr.mono hk).in1 : Room (k + 1) X.A.in1).in1)
    have lps : [xv].length = ps.length := Fn.len _ _ _ _ hsp
    have rc := Fn.run X.A.in1.in1 X.stack s' H' ⟨[x], []⟩ [x] [xv] _ _ room (J.env0.in1.in1) (by have b0 := hb s' [x] J.kIn (by rw [List.append_nil]; exact lps); rw [List.append_nil] at b0; exact b0) (.cons rxv .nil) hsp
    have fkS : kS ∉ frs X.stack := far_stack I big
    have faS : s.heap.objs.size + 1 ∉ frs X.stack := far_stack I (Nat.le_succ _)
    refine wpAny_bind (wpAny_attempt (wpAny_mono (wpAny_call (Q := fun v s2 => CE X.stack X.prog X.w H' s' (fun v H2 => ∃ G2, Grow G' H' G2 H2 ∧ Rp X.K G2 v kd) v s2) (E := fun _ _ => False) (codeAny_mono rc fun r s2 hq => ?_)) (fun v s2 hv => ?_) fun _ _ z => z.elim))
    · cases r with
      | error e =>
        obtain ⟨_, _, _, _, _, _, _, _, _, _, _, _, z⟩ := hq
        exact z
      | ok fl =>
        cases fl with
        | ret u => exact hq
        | next => exact False.elim hq
        | brk => exact False.elim hq
        | cont => exact False.elim hq
    · obtain ⟨kv, H2, os2, bare2, un2, hok2, rkv, G2, gr2, pkv⟩ := hv
      have nk2 : s2.heap.get? kS = some (seqObj "list" kA e) := un2.keep kS _ nk fk fkS (by simp)
      have na2 : s2.heap.get? (s.heap.objs.size + 1) = some (seqObj "list" #[] e1) := un2.keep _ _ na fa faS (by simp)
      have fk2 : H2 kS = none := un2.free kS _ nk fk (by simp)
      have fa2 : H2 (s.heap.objs.size + 1) = none := un2.free _ _ na fa (by simp)
      have lk : kA.size ≤ us.length := by
        have h1 : ks.length = kA.toList.length := rk.length
        have h3 : kA.toList.length = kA.size := Array.length_toList
        have h2 := pk.length
        rw [List.length_take] at h2
        rw [← h3, ← h1, h2]
        exact Nat.le_trans (Nat.min_le_left _ _) (Nat.le_of_lt li)
      have s1 := Heap.SameBut.update s2.heap kS (Obj.mapSeq (·.push v))
      obtain ⟨c2, hc2⟩ : ∃ c2, (s2.heap.update kS (Obj.mapSeq (·.push v))).get? kS = some (seqObj "list" (kA.push v) c2) := ⟨_, get?_update_seq nk2 (·.push v)⟩
      refine wpAny_bind (listUpdate_at nk2 rfl ?_ (Nat.le_trans lk hZ) (Nat.le_trans (Nat.le_of_eq (Array.size_push ..)) (Nat.succ_le_succ (Nat.le_trans lk hZ))))
      refine wpAny_pure ⟨rfl, H2, G2, ks ++ [kv], kA.push v, c2, os2.trans os, bare2, Un.off (un.trans un2) (fun b o o' h1 h2 => (s1.2 b (fun z => ?_)).trans h2), hok_off hok2 fk2 (fun b o hb h2 => (s1.2 b hb).trans h2), gr.trans gr2, hc2, (s1.2 _ (Ne.symm kSa)).trans na2, fk2, fa2, ?_, ?_⟩
      · rw [z] at h1
        exact absurd (Nat.lt_of_lt_of_le (Heap.lt_size h1) big) (Nat.lt_irrefl _)
      · rw [Array.toList_push]
        exact rk.append (.cons rkv .nil)
      · rw [List.take_add_one, ekd]
        exact (pk.up gr2.g).append (.cons pkv .nil)
  case done =>
    intro s' hM
    rw [Nat.zero_add, List.take_of_length_le (Nat.le_of_eq lus.symm)] at hM
    obtain ⟨H', G', ks, kA, e, os, bare, un, hok', gr, nk, na, fk, fa, rk, pk⟩ := hM.ex
    have J : Inv X pins σ H' s' := I.call' (ch := []) os un hok' bare (fun b z => absurd z (by simp))
    have hcan : PyData.canLayAll0 (toPs kds) = true := canAll_of fun d hd => (hdep d hd).2
    obtain ⟨as, rd⟩ := Dp.readsAll J _ _ _ (dps_of (gr.sub) kds ks hcan pk) rk
    rw [toPs_map] at rd
    have each := reads_each rd
    have hsz : kA.size = us.length := by
      have h1 : ks.length = kA.toList.length := rk.length
      have h3 : kA.toList.length = kA.size := Array.length_toList
      rw [← h3, ← h1, pk.length, lus]
    obtain ⟨hh, hh1, hh2⟩ := restrict s'.heap fun b => decide (b ≠ kS)
    have hu : ∀ d, d ∈ kds.map toP → X.A.in1.in1.units + d.depth < cLine := fun d hd => by
      have := (hdep d hd).1
      have := hr.un
      show X.A.units + 1 + 1 + d.depth < cLine
      omega
    refine wpAny_bind (listItems_at nk rfl ?_)
    refine PySem.W.keyH_end (κ := PySem.W.dataKind s'.heap (kds.map toP)) (h₁ := hh) (fun b o hb h => ?_) (hh2 kS (by simp)) nk na kSa (PySem.W.SortsAt.data each hal hsk hu) hsz hZ fun h3 tk3 c k3 n3 => ⟨rfl, ?_⟩
    · by_cases z : b = kS
      · rw [z, hh2 kS (by simp)] at h; cases h
      · rw [← hh1 b (by simpa using z)]; exact h
    · have ko : PySem.W.KeyedOut false ((b3 xs ds kds).map fun b => toP b.2) us (PySem.W.sortVals (PySem.W.dataKind s'.heap (kds.map toP)) false kA.toList us) := by
        have ek : (b3 xs ds kds).map (fun b => toP b.2) = kds.map toP := by
          have := congrArg (List.map toP) (b3_keys (vs := xs) (ds := ds) (ks := kds) (by rw [hx.length, hlen]) hlen)
          rwa [List.map_map] at this
        rw [ek]
        exact ⟨_, _, hal, rfl, each⟩
      have out := PySem.W.keyedOut_each (R := fun u (b : B3) => RelV b.1.1 u) (fun b : B3 => toP b.2) ko (b3_each rv hx.length hlen)
      have vo := each_vals out
      generalize eo : PySem.W.sortVals (PySem.W.dataKind s'.heap (kds.map toP)) false kA.toList us = ov at n3 vo
      have po : RpL X.K G' (((b3 xs ds kds).mergeSort (PySem.W.dataLe false fun b : B3 => toP b.2)).map fun b => b.1.1) (sortD ds kds) := by
        rw [← sortD_b3 (vs := xs) hx.length]
        exact rpL_map fun b hb => (b3_rp hx b ((List.mergeSort_perm _ _).mem_iff.mp hb)).up gr.g
      have lo : (((b3 xs ds kds).mergeSort (PySem.W.dataLe false fun b : B3 => toP b.2)).map fun b => b.1.1).length ≤ sizeLine := by
        rw [po.length]
        unfold sortD
        rw [isort_dl, List.length_map, List.length_mergeSort, List.length_zip]
        rw [List.length_map] at hl1000
        rw [sizeLine_eq]
        omega
      generalize ev : (((b3 xs ds kds).mergeSort (PySem.W.dataLe false fun b : B3 => toP b.2)).map fun b => b.1.1) = vv at vo po lo
      have keepB : ∀ b o, b ≠ s.heap.objs.size + 1 → b ≠ kS → s'.heap.get? b = some o → h3.get? b = some o := fun b o n1 n2 h => k3 b o n1 (by rw [hh1 b (by simpa using n2)]; exact h)
      have un3 : Un (frs X.stack) [] H (upd H' (s.heap.objs.size + 1) (.lst vv)) s.heap h3 := Un.put (Un.off un fun b o o' h1 h2 => keepB b o (fun z => ?_) (fun z => ?_) h2) (Heap.get?_none_of_le (Nat.le_succ _)) (I.hok.fresh (Nat.le_succ _))
      · have hok3 : HOk X.prog X.w (upd H' (s.heap.objs.size + 1) (.lst vv)) h3 := fun b o h => by
          by_cases z : b = s.heap.objs.size + 1
          · subst z
            rw [upd_same] at h
            cases h
            exact ⟨lo, ov, c, vo, n3⟩
          · rw [upd_ne z] at h
            refine (hok' b o h).stay (fun b2 o2 hb2 h2 => keepB b2 o2 (fun y => ?_) (fun y => ?_) h2) (fun b2 h2 => ?_) fun b2 xs2 h2 => ?_
            · rcases hb2 with y2 | y2
              · exact z (y2.symm.trans y)
              · rw [y, fa] at y2; cases y2
            · rcases hb2 with y2 | y2
              · rw [← y2, y, fk] at h; cases h
              · rw [y, fk] at y2; cases y2
            · rw [upd_ne (ne_of_none h2 fa)]; exact h2
            · rw [upd_ne (ne_of_none h2 fa)]; exact h2
        exact ⟨.ref _, _, I.call' (s' := { s' with heap := h3, toks := tk3 }) (ch := []) os un3 hok3 bare (fun b z => absurd z (by simp)), rfl, q _ _ G' H' gr (I.hok.fresh (Nat.le_succ _)) fa po⟩
      · rw [z] at h1
        exact absurd (Nat.lt_of_lt_of_le (Heap.lt_size h1) (Nat.le_succ _)) (Nat.lt_irrefl _)
      · rw [z] at h1
        exact absurd (Nat.lt_of_lt_of_le (Heap.lt_size h1) big) (Nat.lt_irrefl _)
end
end DL

/-! sorted over data. -/
namespace DL
open PySem PySem.Spec PyProof.Rows L2 LamX

def mSortK (F : List D → FR) (m : ME) : ME := fun r => match m r with
  | .ok (.lst ds) r1 => (match keysD F ds with
    | some ks => if okSort (ks.map toP) then .ok (.lst (sortD ds ks)) r1 else .bad
    | none => .bad)
  | .exc c fs => .exc c fs
  | _ => .bad
def sortD0 (ds : List D) : List D := isort (PySem.W.dataLe false toP) ds
def gSort (d : D) : Option D := match d with
  | .lst ds => if okSort (ds.map toP) then some (.lst (sortD0 ds)) else none
  | .tup ds => if okSort (ds.map toP) then some (.lst (sortD0 ds)) else none
  | _ => none
def rSortD (K : PySem.W.Frag) : List V → Hp → VK → Prop := fun vs H Q => ∃ (l : Addr) (xs : List V) (G : Hp) (ds : List D), vs = [.ref l] ∧ (SqL K H l xs ∨ SqT K H l xs) ∧ Same G H ∧ RpL K G xs ds ∧ okSort (ds.map toP) = true ∧
  ∀ p ys, H p = none → RpL K G ys (sortD0 ds) → Q (.ref p) (upd H p (.lst ys))
theorem zip_each : ∀ {vs : List V} {us : List Value} {ds : List D}, Vals vs us → vs.length = ds.length → PySem.W.EachIs (fun u (b : V × D) => RelV b.1 u) us (vs.zip ds)
  | _, _, [], .nil, _ => .nil
  | _, _, d :: ds, .cons p q, h => .cons p (zip_each q (by simpa using h))
  | _, _, d :: ds, .nil, h => by simp at h
  | _, _, [], .cons _ _, h => by simp at h
theorem each_fst : ∀ {out : List Value} {l : List (V × D)}, PySem.W.EachIs (fun u (b : V × D) => RelV b.1 u) out l → Vals (l.map fun b => b.1) out
  | _, _, .nil => .nil
  | _, _, .cons p q => .cons p (each_fst q)
theorem zip_rp {K : PySem.W.Frag} {G : Hp} : ∀ {vs : List V} {ds : List D}, RpL K G vs ds → ∀ b ∈ vs.zip ds, Rp K G b.1 b.2
  | _, _, .nil => fun b hb => by simp at hb
  | _, _, .cons p q => fun b hb => by
    simp only [List.zip_cons_cons, List.mem_cons] at hb
    rcases hb with rfl | hb
    · exact p
    · exact zip_rp q b hb
theorem zip_snd : ∀ {vs : List V} {ds : List D}, vs.length = ds.length → (vs.zip ds).map (fun b => b.2) = ds
  | [], [], _ => rfl
  | v :: vs, d :: ds, h => by simp [zip_snd (vs := vs) (ds := ds) (by simpa using h)]
  | [], d :: ds, h => by simp at h
  | v :: vs, [], h => by simp at h
/-! sorted over a tuple: its items are taken into a new list first -/
section
open PySem.W PySem.Calls
variable {prog : Program} {w : World} {A : Around} {E : Value → Shared → Prop} {s : Shared}
theorem collect_tup {l : Addr} {vs : List Value} {Q : List Value → Shared → Prop} (hl : IsTup s.heap l vs.toArray)
    (h : Q vs { s with heap := (s.heap.push (seqObj "list" #[] 0)).update s.heap.objs.size (Obj.mapSeq (· ++ vs.toArray)) }) (hsz : vs.length ≤ sizeLine) :
    wpAny (model prog w) A (collect (.ref l)) Q E s := by
  obtain ⟨o, ho, hc, n, hd⟩ := id hl
  unfold collect
  refine wpAny_bind (wpAny_runValue (codeAny_builtin entry_proto_collect' ?_))
  show wpAny _ _ (do again (.builtin "list.__iadd__" ⟨[← newList [], .ref l], []⟩)) _ _ s
  refine wpAny_bind (wpAny_newList (wpAny_pure ⟨Code.quiet_builtin _ (by decide +kernel), codeAny_builtin entry_list_iadd' ?_⟩))
  show wpAny _ _ (Builtin.List.listExtendWith (.ref s.heap.objs.size) (.ref l) (.ref s.heap.objs.size)) _ _ { s with heap := s.heap.push (seqObj "list" #[] 0) }
  unfold Builtin.List.listExtendWith
  have ho' : (s.heap.push (seqObj "list" #[] 0)).get? l = some o := Heap.get?_push_of_some _ ho
  refine wpAny_bind (wpAny_typeOf (T := "tuple") ⟨o, ho', hc⟩ ?_)
  have ht : (Value.type "tuple" == Value.type "tuple") = true := by rfl
  rw [if_pos (by rw [ht]; simp)]
  refine wpAny_bind (listItems_at ho' hd ?_)
  refine wpAny_bind (listItems_at (xs := #[]) (n := 0) (Heap.get?_push_size _ rfl) rfl ?_)
  rw [if_neg (by simp)]
  refine wpAny_bind (listUpdate_at (xs := #[]) (n := 0) (Heap.get?_push_size _ rfl) rfl ?_ (Nat.zero_le _) (by show (#[] ++ vs.toArray).size ≤ sizeLine + 1; simp only [Array.size_append, List.size_toArray, List.length_nil]; omega))
  refine wpAny_pure ?_
  show wpAny (model prog w) A (do
      let o ← load s.heap.objs.size
      match o.data with
      | .seq xs _ => pure xs.toList
      | _ => unsupported "internal:collect") Q E { s with heap := (s.heap.push (seqObj "list" #[] 0)).update s.heap.objs.size (Obj.mapSeq (· ++ vs.toArray)) }
  refine wpAny_bind (wpAny_load (get?_update_seq (Heap.get?_push_size _ rfl) _) ?_)
  show wpAny _ _ (pure ((#[] : Array Value) ++ vs.toArray).toList) Q E _
  rw [show ((#[] : Array Value) ++ vs.toArray).toList = vs by simp]
  exact wpAny_pure h
theorem sorted_of_sortT {l : Addr} {vs : List Value} {kw : List (Str × Value)} {Q : Value → Shared → Prop} (hl : IsTup s.heap l vs.toArray) (hL : vs.length ≤ sizeLine) (ha1 : argsOk "sorted" ⟨[.ref l], kw⟩) (ha2 : ∀ x, argsOk "list.sort" ⟨[.ref x], kw⟩)
    (body : ∀ E' : Value → Shared → Prop, wpAny (model prog w) A.in1.in1 (Builtin.«list.sort» ⟨[.ref (s.heap.objs.size + 1)], kw⟩) (fun f s' => f = .done (.ret .none) ∧ Q (.ref (s.heap.objs.size + 1)) s') E' { s with heap := copyHeap s.heap vs }) :
    wpAny (model prog w) A (call (.builtin "sorted") [.ref l] kw) Q E s := by
  refine call_function_entry_kw kind_sorted plain_sorted entry_sorted ha1 ?_
  unfold Builtin.«sorted»
  refine wpAny_bind (m := checkCount "sorted" 1 1 _) (wpAny_pure ?_)
  refine wpAny_bind (collect_tup hl ?_ hL)
  refine wpAny_bind (wpAny_newList ?_ hL)
  have hsz : ((s.heap.push (seqObj "list" #[] 0)).update s.heap.objs.size (Obj.mapSeq (· ++ vs.toArray))).objs.size = s.heap.objs.size + 1 := by
    rw [Heap.size_update, size_push']
  show wpAny _ _ _ _ _ { s with heap := copyHeap s.heap vs }
  rw [hsz]
  refine wpAny_bind (wpAny_holding (wpAny_call_entry_kw slot_list_sort ⟨_, copyHeap_at s.heap vs, rfl⟩ entry_list_sort ?body (ha2 _)))
  case body =>
    show wpAny (model prog w) A.in1.in1 (Builtin.«list.sort» ⟨[.ref (s.heap.objs.size + 1)], kw⟩) _ _ _
    refine wpAny_mono (body _) (fun f s' hf => ?_) fun _ _ e => e
    obtain ⟨rfl, hq⟩ := hf
    exact ⟨_, rfl, wpAny_pure ⟨_, rfl, hq⟩⟩
theorem sorted_dataT {β : Type} {vs : List Value} {bs : List β} {enc : β → PyData} {R : Value → β → Prop} {l : Addr} {Q : Value → Shared → Prop} (hl : s.heap.IsList l vs.toArray ∨ IsTup s.heap l vs.toArray) (e : EachIs R vs bs) (er : EachIs (fun v b => ∃ as, Reads s.heap v (enc b) as) vs bs) (hal : AllAlike (bs.map enc)) (hk : Sortable (bs.map enc)) (hL : bs.length ≤ sizeLine)
    (hu : ∀ b, b ∈ bs → A.units + 2 + (enc b).depth < cLine) (h : ∀ out, out.length = bs.length → EachIs R out (bs.mergeSort (dataLe false enc)) → Q (.ref (s.heap.objs.size + 1)) { s with heap := sortedAll s.heap vs (List.toArray out) }) :
    wpAny (model prog w) A (call (.builtin "sorted") [.ref l]) Q E s := by
  rcases hl with hl | hl
  · exact sorted_data hl e er hal hk hL hu h
  have er' : EachIs (fun v b => ∃ as, Reads (sortingHeap (copyHeap s.heap vs) (s.heap.objs.size + 1) vs) v (enc b) as) vs bs := er.mono fun _ _ ⟨as, r⟩ => ⟨as, PyProof.Rows.Reads.keeps (fun _ _ => sorting_copy_old) r⟩
  exact sorted_of_sortT hl (by rw [e.length]; exact hL) (args_sorted1 _) (fun _ => args_list_sort _) fun _ => list_sort_vals (s := { s with heap := copyHeap s.heap vs }) (κ := dataKind (sortingHeap (copyHeap s.heap vs) (s.heap.objs.size + 1) vs) (bs.map enc)) (copyHeap_at s.heap vs)
    (SortsAt.data (s := { s with heap := sortingHeap (copyHeap s.heap vs) (s.heap.objs.size + 1) vs }) (each_map (R := fun v d => ∃ as, Reads (sortingHeap (copyHeap s.heap vs) (s.heap.objs.size + 1) vs) v d as) enc er') hal hk (bound_map hu)) (by rw [e.length]; exact hL)
    ⟨rfl, h _ (by rw [sortVals_length false rfl]; exact e.length) (sortVals_data false e er' hal)⟩
end
section
variable {X : Cx} {C : Fc} {E : XK}
theorem cr_sortD (hu : X.A.units + 65 < cLine) : CallR X (.builtin "sorted") (rSortD X.K) := by
  intro pins s σ H vs us Q I r h
  obtain ⟨l, xs, G, ds, rfl, hl, sub, hx, hok, q⟩ := h
  obtain rfl := Vals.ref1 r
  obtain ⟨its, rv, hl1⟩ : ∃ its : List Value, Vals xs its ∧ (s.heap.IsList l its.toArray ∨ IsTup s.heap l its.toArray) := by
    rcases hl with hl | hl
    · obtain ⟨its, rv, h1, _⟩ := I.list hl
      exact ⟨its, rv, .inl h1.isList⟩
    · obtain ⟨its, rv, h1, _⟩ := I.tuple hl
      exact ⟨its, rv, .inr h1⟩
  obtain ⟨hal, hsk, h1000, hdep⟩ := okSort_of hok
  have hcan : PyData.canLayAll0 (toPs ds) = true := canAll_of fun d hd => (hdep d hd).2
  obtain ⟨as, rd⟩ := Dp.readsAll I _ _ _ (dps_of sub ds xs hcan hx) rv
  rw [toPs_map] at rd
  have es : (xs.zip ds).map (fun b => toP b.2) = ds.map toP := by
    have := congrArg (List.map toP) (zip_snd (vs := xs) hx.length)
    rwa [List.map_map] at this
  have er := PySem.W.readsAll_each (fun b : V × D => toP b.2) (vs := its) (bs := xs.zip ds) (as := as) (by rw [es]; exact rd)
  have lb : (xs.zip ds).length = ds.length := by rw [List.length_zip, hx.length, Nat.min_self]
  rw [List.length_map] at h1000
  refine sorted_dataT (R := fun u (b : V × D) => RelV b.1 u) (enc := fun b : V × D => toP b.2) hl1 (zip_each rv hx.length) er (by rw [es]; exact hal) (by rw [es]; exact hsk) (by rw [lb, sizeLine_eq]; omega) (fun b hb => ?_) fun out lo eo => ?_
  · have hm : toP b.2 ∈ ds.map toP := by rw [← es]; exact List.mem_map.mpr ⟨b, hb, rfl⟩
    have := (hdep _ hm).1
    omega
  · have vo := each_fst eo
    have po : RpL X.K G (((xs.zip ds).mergeSort (PySem.W.dataLe false fun b : V × D => toP b.2)).map fun b => b.1) (sortD0 ds) := by
      have e2 : sortD0 ds = ((xs.zip ds).mergeSort (PySem.W.dataLe false fun b : V × D => toP b.2)).map (fun b => b.2) := by
        unfold sortD0
        rw [isort_dl, List.map_mergeSort (r := PySem.W.dataLe false fun b : V × D => toP b.2) (s := PySem.W.dataLe false toP) (f := fun b : V × D => b.2) (fun a _ b _ => rfl), zip_snd hx.length]
      rw [e2]
      exact rpL_map fun b hb => zip_rp hx b ((List.mergeSort_perm _ _).mem_iff.mp hb)
    obtain ⟨ep, he⟩ := PyProof.Rows.sortedAll_at s.heap its out.toArray
    have lz : (((xs.zip ds).mergeSort (PySem.W.dataLe false fun b : V × D => toP b.2)).map fun b => b.1).length ≤ sizeLine := by
      rw [List.length_map, List.length_mergeSort, lb, sizeLine_eq]; omega
    exact ⟨.ref _, _, I.laid (t' := s.toks) (o := .lst (((xs.zip ds).mergeSort (PySem.W.dataLe false fun b : V × D => toP b.2)).map fun b => b.1)) (fun _ _ => PyProof.Rows.sortedAll_old) (Nat.le_succ _) ⟨lz, out, ep, vo, he⟩, rfl, q _ _ (I.hok.fresh (Nat.le_succ _)) po⟩
theorem d_sort : CallD C (rSortD C.K) (b1 gSort) := callD1 fun G H v d1 d Q s h1 e k => by
  unfold gSort at e
  split at e
  · rename_i ds
    split at e
    · rename_i ok
      cases e
      cases h1 with
      | @lst a xs _ g p =>
        refine ⟨a, xs, G, ds, rfl, .inl (.inl (.inl (s.sub _ _ g))), s.sub, p, ok, fun q ys hq py => ?_⟩
        have gr := Grow.lay (o := .lst ys) s.sub s.gnt hq (fun ps z => by cases z)
        exact k _ _ _ gr (.lst upd_same (py.up gr.g))
    · cases e
  · rename_i ds
    split at e
    · rename_i ok
      cases e
      cases h1 with
      | @tup a xs _ g p =>
        refine ⟨a, xs, G, ds, rfl, .inr (SqT.of (s.sub _ _ g)), s.sub, p, ok, fun q ys hq py => ?_⟩
        have gr := Grow.lay (o := .lst ys) s.sub s.gnt hq (fun ps z => by cases z)
        exact k _ _ _ gr (.lst upd_same (py.up gr.g))
    · cases e
  · cases e
/-- sorted(e, key=f) -/
theorem e_sortK {f : Str} {F : List D → FR} {e : Expr} {m : ME} {k j : Nat} {p p2 p3 pos : Pos} (d : Df X.prog X.w X.K X.mg X.base k f (spF C.K C.cls F)) (hr : Room j X.A) (he : PE X e (tE C E m)) (hm : X.mg "sorted" = none)
    (hK : C.K = X.K := by rfl) (hk : k + 2 ≤ j := by decide) (hgs : Gl X "sorted" := by rfl) (hg : Gl X f := by rfl) (hdb : (f == ("__debug__" : Str)) = false := by decide)
    (ha : starEach [e] X.env = (false, eval e X.env) :: starEach [] X.env := by rfl)
    (he1 : backTo pos (starEach [e] X.env) = (false, eval e X.env) :: backTo pos (starEach [] X.env) := by rfl) (hpl : (backTo pos (starEach [e] X.env)).any (·.1) = false := by rfl)
    (hall : (backToKw pos (keywordEach [⟨some "key", .Name f p2, p3⟩] X.env)).all (·.1.isSome) = true := by rfl) (hnone : (backToKw pos (keywordEach [⟨some "key", .Name f p2, p3⟩] X.env)).any (·.1.isNone) = false := by rfl) (hks : (backToKw pos (keywordEach [⟨some "key", .Name f p2, p3⟩] X.env)).filterMap (·.1) = [Str.ofString "key"] := by rfl) :
    PE X (.Call (.Name "sorted" p) [e] [⟨some "key", .Name f p2, p3⟩] pos) (tE C E (mSortK F m)) := by
  obtain ⟨fa, fd, ps, o, mf, kp, b⟩ := d.ex
  rw [hK] at o
  have crk : CallRK X (.builtin "sorted") [Str.ofString "key"] (fun vs zs H Q => zs = [.ref fa] ∧ ∃ (l : Addr) (xs : List V) (G : Hp) (ds kds : List D), vs = [.ref l] ∧ SqL X.K H l xs ∧ Same G H ∧ (∀ b ps, G b ≠ some (.tbl ps)) ∧ RpL X.K G xs ds ∧ keysD F ds = some kds ∧ okSort (kds.map toP) = true ∧
      ∀ p vs G' H', Grow G H G' H' → H p = none → H' p = none → RpL X.K G' vs (sortD ds kds) → Q (.ref p) (upd H' p (.lst vs))) := by
    intro pins s σ H vs zs us ws Q I r rz h
    obtain ⟨rfl, l, xs, G, ds, kds, rfl, hl, sub, gnt, hx, hks, hok, q⟩ := h
    obtain rfl := Vals.ref1 r
    obtain rfl := Vals.ref1 rz
    exact sortK_run I o hr hk b sub gnt hl hx hks hok q
  have pf : PE X (.Name f p2) (tC (.ref fa)) := ⟨fun pins s σ H Q I h => ld_glob I hg mf ⟨.ref fa, H, I, rfl, h⟩ hdb⟩
  refine PE.imp (pe_callBK crk hgs hm (by decide +kernel) (pa_cons he pa_nil ha) (pk_cons pf pk_nil) (by decide) (by decide) he1 hpl hall hnone hks) fun σ H Q h => ?_
  obtain ⟨r, ad, G, s, k⟩ := h
  refine ⟨r, ad, G, s, ?_⟩
  unfold mSortK at k
  cases q : m r with
  | bad => rw [q] at k; exact k.elim
  | exc c fs => rw [q] at k; exact k
  | ok dd r1 =>
    rw [q] at k
    intro v G1 H1 s1 k1 p1
    cases dd with
    | lst ds =>
      simp only at k
      cases qk : keysD F ds with
      | none => rw [qk] at k; exact k.elim
      | some ks =>
        rw [qk] at k
        simp only at k
        by_cases hs : okSort (ks.map toP) = true
        · rw [if_pos hs] at k
          cases p1 with
          | @lst a xs _ g px =>
            refine ⟨rfl, a, xs, G1, ds, ks, rfl, .inl (.inl (s1.hst.sub _ _ g)), s1.hst.sub, s1.hst.gnt, by rw [← hK]; exact px, qk, hs, fun p vs G' H' gr h0 h1 py => ?_⟩
            have s2 := s1.grow gr
            have lay := Grow.lay (o := .lst vs) s2.hst.sub s2.hst.gnt h1 (fun ps z => by cases z)
            exact k _ _ _ (s2.grow lay) (k1.trans ((Kp.grow gr).trans (Kp.grow lay))) (.lst upd_same (by rw [hK]; exact py.up lay.g))
        · rw [if_neg hs] at k; exact k.elim
    | non => exact k.elim
    | bl _ => exact k.elim
    | int _ => exact k.elim
    | str _ => exact k.elim
    | tup _ => exact k.elim
    | dct _ _ => exact k.elim
    | obj _ _ => exact k.elim
    | scr _ => exact k.elim
    | cst _ => exact k.elim
end
end DL

/-! == and != where empty dicts stand inside. -/
namespace DL
open PySem PySem.Spec PyProof.Rows L2 LamX

def allX (f : D → D → Option Bool) : List D → List D → Bool
  | [], [] => true
  | x :: a, y :: b => (f x y == some true) && allX f a b
  | _, _ => false
theorem allX_len {f : D → D → Option Bool} : ∀ {a b : List D}, allX f a b = true → a.length = b.length
  | [], [], _ => rfl
  | x :: a, y :: b, h => by
    simp only [allX, Bool.and_eq_true] at h
    simp [allX_len h.2]
  | [], y :: b, h => by simp [allX] at h
  | x :: a, [], h => by simp [allX] at h
theorem allX_at {f : D → D → Option Bool} : ∀ {a b : List D}, allX f a b = true → ∀ (i : Nat) x y, a[i]? = some x → b[i]? = some y → f x y = some true
  | [], [], _, i, x, y, e, _ => by simp at e
  | x :: a, y :: b, h, i, u, v, e1, e2 => by
    simp only [allX, Bool.and_eq_true, beq_iff_eq] at h
    cases i with
    | zero => simp at e1 e2; subst e1; subst e2; exact h.1
    | succ i => exact allX_at h.2 i u v (by simpa using e1) (by simpa using e2)
  | [], y :: b, h, _, _, _, _, _ => by simp [allX] at h
  | x :: a, [], h, _, _, _, _, _ => by simp [allX] at h
def eqX : Nat → D → D → Option Bool
  | 0, _, _ => none
  | n + 1, d, e => if okEq d && okEq e then some (eqB d e) else match d, e with
    | .tup a, .tup b => if allX (eqX n) a b then some true else none
    | .lst a, .lst b => if allX (eqX n) a b then some true else none
    | .dct _ [], .dct _ [] => some true
    | _, _ => none
section
variable {X : Cx} {pins : List (Addr × Obj)} {σ : L2.St} {H G : Hp} {s : Shared}
theorem dict0 (I : Inv X pins σ H s) (sub : Same G H) {v : V} {u : Value} (h : Rp X.K G v (.dct t [])) (ru : RelV v u) : ∃ a, u = .ref a ∧ (a == sysModules) = false ∧ ∀ (P : Program) (w : World), s.heap.DictOf (mixKind P w) a [] := by
  have of : ∀ {a : Addr} {o : Obj} {es : Array DictEntry} {ep : Nat}, s.heap.get? a = some o → o.ExactDict → o.data = .dict es ep → es.toList = [] → ∀ (P : Program) (w : World), s.heap.DictOf (mixKind P w) a [] := fun {a o es ep} e1 e2 e3 e4 P w => by
    have e5 : es = #[] := by rw [← Array.toArray_toList (xs := es), e4]
    subst e5
    exact ⟨o, #[], ep, e1, e2, e3, fun e he => by simp at he, .nil, by simp⟩
  cases h with
  | @dK a o kvs _ g p =>
    cases p
    obtain rfl : u = Value.ref a := ru
    obtain ⟨_, _, nm, vs, kv, o', es, ep, e1, e2, e3, _, e5, _⟩ := (show ObjOk X.prog X.w H s.heap a (.frz o (.dK [])) from I.hok a _ (sub _ _ g))
    cases kv
    refine ⟨a, rfl, nm, of e1 e2 e3 ?_⟩
    cases q : es.toList with
    | nil => rfl
    | cons x l => rw [q] at e5; cases e5
  | @dT a o kvs _ g p =>
    cases p
    obtain rfl : u = Value.ref a := ru
    obtain ⟨_, _, nm, xs, px, o', es, ep, e1, e2, e3, e4, _⟩ := (show ObjOk X.prog X.w H s.heap a (.frz o (.dT [])) from I.hok a _ (sub _ _ g))
    cases px
    exact ⟨a, rfl, nm, of e1 e2 e3 (by rw [e4]; rfl)⟩
theorem ok_reads (I : Inv X pins σ H s) (sub : Same G H) {v : V} {u : Value} {d : D} (h : Rp X.K G v d) (ru : RelV v u) (o : okEq d = true) : ∃ as, Reads s.heap u (toP d) as :=
  Dp.reads I _ _ _ (dp_of sub d v (SeqAt.canLay_of_shaped o) h) ru
theorem vals_at {vs : List V} {us : List Value} (h : Vals vs us) {j : Nat} (hj : j < us.toArray.size) : ∃ v, vs[j]? = some v ∧ RelV v us.toArray[j] := by
  have hj' : j < us.length := by simpa using hj
  rcases paired_at h j with ⟨_, z⟩ | ⟨a, b, e1, e2, r⟩
  · rw [List.getElem?_eq_none_iff] at z; omega
  · refine ⟨a, e1, ?_⟩
    rw [List.getElem?_eq_getElem hj'] at e2
    cases e2
    simpa using r
theorem eqX_items {n : Nat} {A : Around} {xs ys : List V} {a b : List D} {us ws : List Value} (ih : ∀ (d e : D) (bb : Bool) (v u : V) (v' u' : Value), eqX n d e = some bb → Rp X.K G v d → Rp X.K G u e → RelV v v' → RelV u u' → SeqAt.EqAt A s v' u' bb) (h : allX (eqX n) a b = true)
    (p1 : RpL X.K G xs a) (p2 : RpL X.K G ys b) (r1 : Vals xs us) (r2 : Vals ys ws) : ∀ j (h1 : j < us.toArray.size) (h2 : j < ws.toArray.size), SeqAt.EqAt A s us.toArray[j] ws.toArray[j] ((fun _ => true) j) := by
  intro j h1 h2
  obtain ⟨v, e1, q1⟩ := vals_at r1 h1
  obtain ⟨u, e2, q2⟩ := vals_at r2 h2
  rcases rpL_at p1 j with ⟨z, _⟩ | ⟨v2, d, f1, f2, f3⟩
  · rw [z] at e1; cases e1
  rcases rpL_at p2 j with ⟨z, _⟩ | ⟨u2, e, g1, g2, g3⟩
  · rw [z] at e2; cases e2
  rw [e1] at f1; cases f1
  rw [e2] at g1; cases g1
  exact ih d e true v u _ _ (allX_at h j d e f2 g2) f3 g3 q1 q2
theorem all_true (n : Nat) : (List.range n).all (fun _ => true) = true := List.all_eq_true.mpr fun _ _ => rfl
theorem eqX_at (I : Inv X pins σ H s) (sub : Same G H) : ∀ (n : Nat) (A : Around), A.units + 64 + n < cLine → ∀ (d e : D) (bb : Bool) (v u : V) (v' u' : Value), eqX n d e = some bb → Rp X.K G v d → Rp X.K G u e → RelV v v' → RelV u u' → SeqAt.EqAt A s v' u' bb
  | 0, _, _, _, _, _, _, _, _, _, h, _, _, _, _ => by cases h
  | n + 1, A, hu, d, e, bb, v, u, v', u', h, pd, pe, rv, ru => by
    unfold eqX at h
    by_cases ok : (okEq d && okEq e) = true
    · rw [if_pos ok] at h
      cases h
      simp only [Bool.and_eq_true] at ok
      obtain ⟨as, r1⟩ := ok_reads I sub pd rv ok.1
      obtain ⟨bs, r2⟩ := ok_reads I sub pe ru ok.2
      exact SeqAt.eqAt_reads _ _ A s _ _ _ _ r1 r2 (SeqAt.canLay_of_shaped ok.1) (SeqAt.canLay_of_shaped ok.2) (SeqAt.room_of_shaped ok.1 (by omega))
    · rw [if_neg ok] at h
      have ih := eqX_at I sub n A.in1 (by show A.units + 1 + 64 + n < cLine; omega)
      split at h
      · rename_i a b
        by_cases al : allX (eqX n) a b = true
        · rw [if_pos al] at h
          cases h
          cases pd with
          | @tup l xs _ g1 p1 =>
            cases pe with
            | @tup m ys _ g2 p2 =>
              obtain rfl : v' = Value.ref l := rv
              obtain rfl : u' = Value.ref m := ru
              obtain ⟨us, r1, t1, _⟩ := I.tuple (SqT.of (sub _ _ g1))
              obtain ⟨ws, r2, t2, _⟩ := I.tuple (SqT.of (sub _ _ g2))
              by_cases z : l = m
              · subst z; exact SeqAt.EqAt.same _
              · have rc := SeqAt.RcAt.tuples (A := A) t1 t2 (by omega) (eqX_items ih al p1 p2 r1 r2)
                have hl : us.toArray.size = ws.toArray.size := by
                  rw [List.size_toArray, List.size_toArray, ← r1.length, ← r2.length, p1.length, p2.length, allX_len al]
                rw [hl, Nat.min_self, all_true] at rc
                exact SeqAt.EqAt.of_refs z (by simpa using rc)
        · rw [if_neg al] at h; cases h
      · rename_i a b
        by_cases al : allX (eqX n) a b = true
        · rw [if_pos al] at h
          cases h
          cases pd with
          | @lst l xs _ g1 p1 =>
            cases pe with
            | @lst m ys _ g2 p2 =>
              obtain rfl : v' = Value.ref l := rv
              obtain rfl : u' = Value.ref m := ru
              obtain ⟨us, r1, t1, _⟩ := I.list (SqL.of (sub _ _ g1))
              obtain ⟨ws, r2, t2, _⟩ := I.list (SqL.of (sub _ _ g2))
              by_cases z : l = m
              · subst z; exact SeqAt.EqAt.same _
              · have hl : us.toArray.size = ws.toArray.size := by
                  rw [List.size_toArray, List.size_toArray, ← r1.length, ← r2.length, p1.length, p2.length, allX_len al]
                have rc := SeqAt.RcAt.lists (A := A) t1.isList t2.isList hl (by omega) (eqX_items ih al p1 p2 r1 r2)
                rw [all_true] at rc
                exact SeqAt.EqAt.of_refs z rc
        · rw [if_neg al] at h; cases h
      · cases h
        obtain ⟨a, rfl, n1, d1⟩ := dict0 I sub pd rv
        obtain ⟨b, rfl, n2, d2⟩ := dict0 I sub pe ru
        by_cases z : a = b
        · subst z; exact SeqAt.EqAt.same _
        · refine SeqAt.EqAt.of_refs z fun P w E Q hq => ?_
          exact PySem.W.rcP_dicts (r := true) n1 n2 (d1 P w) (d2 P w) (by omega) (fun _ => .nil) E Q hq
      · cases h
def rNeX (K : PySem.W.Frag) : R2 := fun x y H Q => ∃ G d e b, Same G H ∧ Rp K G x d ∧ Rp K G y e ∧ eqX 20 d e = some b ∧ (∀ t, d = .dct t [] → False) ∧ Q (.bl (!b)) H
theorem op_neX (hu : X.A.units + 128 < cLine) : OpR X (compareOp .NotEq) (rNeX X.K) := by
  intro pins s σ H x y v u Q I rx ry h
  obtain ⟨G, d, e, b, sub, pd, pe, ex, nd, q⟩ := h
  unfold eqX at ex
  by_cases ok : (okEq d && okEq e) = true
  · rw [if_pos ok] at ex
    cases ex
    simp only [Bool.and_eq_true] at ok
    obtain ⟨as, r1⟩ := ok_reads I sub pd rx ok.1
    obtain ⟨bs, r2⟩ := ok_reads I sub pe ry ok.2
    exact SeqAt.compareNe_shaped r1 r2 ok.1 ok.2 (by omega) ⟨.bl _, H, I, rfl, q⟩
  · rw [if_neg ok] at ex
    have ih := eqX_at I sub 19 X.A.in1 (by show X.A.units + 1 + 64 + 19 < cLine; omega)
    split at ex
    · rename_i a b
      by_cases al : allX (eqX 19) a b = true
      · rw [if_pos al] at ex
        cases ex
        cases pd with
        | @tup l xs _ g1 p1 =>
          cases pe with
          | @tup m ys _ g2 p2 =>
            obtain rfl : v = Value.ref l := rx
            obtain rfl : u = Value.ref m := ry
            obtain ⟨us, r1, t1, _⟩ := I.tuple (SqT.of (sub _ _ g1))
            obtain ⟨ws, r2, t2, _⟩ := I.tuple (SqT.of (sub _ _ g2))
            have rc := SeqAt.RcNeAt.tuples (A := X.A) t1 t2 (by omega) (eqX_items ih al p1 p2 r1 r2)
            have hl : us.toArray.size = ws.toArray.size := by
              rw [List.size_toArray, List.size_toArray, ← r1.length, ← r2.length, p1.length, p2.length, allX_len al]
            rw [hl, Nat.min_self, all_true] at rc
            have ee : (!(true && ws.toArray.size == ws.toArray.size)) = false := by simp
            rw [ee] at rc
            exact rc X.prog X.w _ _ ⟨.bl false, H, I, rfl, q⟩
      · rw [if_neg al] at ex; cases ex
    · rename_i a b
      by_cases al : allX (eqX 19) a b = true
      · rw [if_pos al] at ex
        cases ex
        cases pd with
        | @lst l xs _ g1 p1 =>
          cases pe with
          | @lst m ys _ g2 p2 =>
            obtain rfl : v = Value.ref l := rx
            obtain rfl : u = Value.ref m := ry
            obtain ⟨us, r1, t1, _⟩ := I.list (SqL.of (sub _ _ g1))
            obtain ⟨ws, r2, t2, _⟩ := I.list (SqL.of (sub _ _ g2))
            have hl : us.toArray.size = ws.toArray.size := by
              rw [List.size_toArray, List.size_toArray, ← r1.length, ← r2.length, p1.length, p2.length, allX_len al]
            have rc := SeqAt.RcNeAt.lists (A := X.A) t1.isList t2.isList hl (by omega) (eqX_items ih al p1 p2 r1 r2)
            rw [all_true] at rc
            exact rc X.prog X.w _ _ ⟨.bl false, H, I, rfl, q⟩
      · rw [if_neg al] at ex; cases ex
    · exact (nd _ rfl).elim
    · cases ex
end
def isDct : D → Bool
  | .dct _ _ => true
  | _ => false
def gNeX (d e : D) : Option D := if isDct d then none else (eqX 20 d e).map fun b => .bl (!b)
theorem d_neX {C : Fc} : OpD C (rNeX C.K) gNeX := by
  intro G H v1 v2 d1 d2 d Q s h1 h2 e k
  unfold gNeX at e
  by_cases z : isDct d1 = true
  · rw [if_pos z] at e; cases e
  · rw [if_neg z] at e
    cases q : eqX 20 d1 d2 with
    | none => rw [q] at e; cases e
    | some b =>
      rw [q] at e
      cases e
      exact ⟨G, d1, d2, b, s.sub, h1, h2, q, fun _ y => z (by rw [y]; rfl), k _ _ _ (Grow.refl s) (.bl _)⟩
/-- {} as it stands, never written to -/
theorem e_dct0 {X : Cx} {C : Fc} {E : XK} {pos : Pos} : PE X (.Dict [] [] pos) (tE C E (mC (.dct true []))) := by
  refine ⟨fun pins s σ H Q I h => ?_⟩
  obtain ⟨r, ad, G, st, k⟩ := h
  refine wpAny_mono ((pe_dnewT (X := X) (pos := pos)).run pins s σ H (fun v H' => ∃ q, v = .ref q ∧ H q = none ∧ H' = upd H q (.dT [])) I (fun q hq => ⟨q, rfl, hq, rfl⟩)) (fun u s' hq => ?_) fun _ _ z => z
  obtain ⟨v, H', I', rv, q, rfl, hq, rfl⟩ := hq
  obtain ⟨od, I1⟩ := I'.lock (d := q) (u := .dT []) upd_same trivial
  rw [upd_twice] at I1
  have lay := Grow.lay (o := .frz od (.dT [])) st.hst.sub st.hst.gnt hq (fun ps z => by cases z)
  exact ⟨.ref q, _, I1, rv, k _ _ _ (st.grow lay) (Kp.grow lay) (.dT upd_same .nil)⟩
theorem u128 {k : Nat} {A : Around} (r : Room k A) : A.units + 128 < cLine := by have := r.un; omega
end DL

/-! The rules for defs, their counts given. -/
namespace DL
open PySem PySem.Spec PyProof.Rows L2 LamX
section
variable {P : Program} {w : World} {K : PySem.W.Frag} {mg : Str → Option Value} {base : Heap} {cls : Str → Addr} {T : List (Addr × Str)}
theorem dfF1 {x : Str} {st : Stmt} (N ps : List Str) (M : MS) (n j k : Nat) (hn : ps.length = n) (hj : N.length - ps.length = j) (d : Dfn K mg x st ps) (S : FnScope N ps (defScope st))
    (hbody : ∀ (f : Addr) (cdv : Value) (A : Around) (outer : List Env) (s : Shared) (H G : Hp) (E : XK), Room k (A.deeper (envOfC x (defScope st) s.heap.objs.size f cdv)) →
      PSs (cxOf (L2.CX P w) P w K mg base N x (defScope st) f cdv A outer s H E) (defBody st) (tS (fc0 K cls G H) E M)) :
    Df P w K mg base (k + 1) x (spF K cls (runF M n j)) := by
  subst hn hj
  exact dfF k d S hbody
theorem dfQ1 {x : Str} {st : Stmt} (N ps : List Str) (M : MS) (n j k : Nat) (hn : ps.length = n) (hj : N.length - ps.length = j) (d : Dfn K mg x st ps) (S : FnScope N ps (defScope st))
    (hbody : ∀ (f : Addr) (cdv : Value) (A : Around) (outer : List Env) (s : Shared) (H G : Hp) (E : XK) (a : Addr), Room k (A.deeper (envOfC x (defScope st) s.heap.objs.size f cdv)) →
      PSs (cxOf (L2.CX P w) P w K mg base N x (defScope st) f cdv A outer s H E) (defBody st) (tS (fcQ K cls G H a) E M)) :
    Df P w K mg base (k + 1) x (spQ K (runQ M n j)) := by
  subst hn hj
  exact dfQ k d S hbody
theorem dfT1 {x : Str} {st : Stmt} {c : Addr} (N ps : List Str) (M : MS) (n j k : Nat) (hn : ps.length = n) (hj : N.length - ps.length = j) (d : DfnL K mg x st ps c) (S : FnScope N ps (defScope st))
    (hbody : ∀ (f : Addr) (A : Around) (outer : List Env) (s : Shared) (H G : Hp) (E : XK), Room k (A.deeper (envOfC x (defScope st) s.heap.objs.size f (.ref c))) →
      PSs (cxOf (L2.CX P w) P w K mg base N x (defScope st) f (.ref c) A outer s H E) (defBody st) (tS (fcT K cls T G H) E M)) :
    Df P w K mg base (k + 1) x (spT K cls T (runF M n j)) := by
  subst hn hj
  exact dfT k d S hbody
theorem dfD1 {x : Str} {st : Stmt} {dvs : List V} (N ps : List Str) (M : MS) (n j k : Nat) (hn : ps.length = n) (hj : N.length - ps.length = j) (d : DfnD K mg x st dvs) (S : FnScope N ps (defScope st))
    (hbody : ∀ (f : Addr) (cdv : Value) (A : Around) (outer : List Env) (s : Shared) (H G : Hp) (E : XK), Room k (A.deeper (envOfC x (defScope st) s.heap.objs.size f cdv)) →
      PSs (cxOf (L2.CX P w) P w K mg base N x (defScope st) f cdv A outer s H E) (defBody st) (tS (fc0 K cls G H) E M)) :
    DfD P w K mg base (k + 1) x st dvs ps (spF K cls (runF M n j)) := by
  subst hn hj
  exact dfD k d S hbody
end
theorem pxL1 {Y : Cx} {A : Around} {outer : List Env} {s : Shared} {H : Hp} {E : XK} {scope : Scope} {f c' : Addr} : Passes (L2.CX (lamCx Y A outer s H E scope f c').prog (lamCx Y A outer s H E scope f c').w) (lamCx Y A outer s H E scope f c') E := by
  have h := @pxL Y A outer s H E scope f c'
  exact h
end DL

/-! The law's own def, at its very address; facts of the written part. -/
namespace DL
open PySem PySem.Spec PyProof.Rows L2 LamX
section
variable {P : Program} {w : World} {K : PySem.W.Frag} {mg : Str → Option Value} {base : Heap} {cls : Str → Addr} {T : List (Addr × Str)}
theorem fnT1 {x : Str} {st : Stmt} {c f : Addr} {oc : Value} {od : Option Addr} {kV doc pm : Value} {an : Option Addr} {ct : Value} {osl : Array (Option Value)} (N ps : List Str) (M : MS) (n j k : Nat) (hn : ps.length = n) (hj : N.length - ps.length = j)
    (lk : K.lookup f = some ⟨oc, od, .func (PySem.W.fnOf x x (defArgs st) (defBody st) (defScope st) .none kV doc pm an (.ref c) ct), osl⟩) (hc : PySem.W.codeIn K (.ref c) x = true) (S : FnScope N ps (defScope st))
    (hbody : ∀ (f : Addr) (A : Around) (outer : List Env) (s : Shared) (H G : Hp) (E : XK), Room k (A.deeper (envOfC x (defScope st) s.heap.objs.size f (.ref c))) →
      PSs (cxOf (L2.CX P w) P w K mg base N x (defScope st) f (.ref c) A outer s H E) (defBody st) (tS (fcT K cls T G H) E M)) :
    FnOk P w K mg base (L2.CX P w) (k + 1) f (PySem.W.fnOf x x (defArgs st) (defBody st) (defScope st) .none kV doc pm an (.ref c) ct) ps (spT K cls T (runF M n j)) := by
  subst hn hj
  have hpl : ps.length ≤ N.length := by have := congrArg List.length S.pre; rw [List.length_take] at this; omega
  refine fn_of lk hc S (fun vs H Q E h => spT_len h) (fun A outer s H vs Q E hr h => ?_)
  have hl' := spT_len h
  obtain ⟨G, ds, sub, gnt, p, tb, h⟩ := h
  have hl : ds.length = ps.length := by rw [← p.length]; exact hl'
  refine ⟨_, hbody f A outer s H G E hr, ?_⟩
  have hst : Hst (fcT K cls T G H) G H := ⟨sub, gnt, Same.refl _, fun _ z => z, fun _ z => z, fun _ _ z _ _ => z, fun _ _ z => z, tb⟩
  refine ⟨_, _, G, stt_start (C := fcT K cls T G H) (N := N) hst p (by rw [hl]; exact hpl), ?_⟩
  unfold runF at h
  rw [if_pos hl] at h
  rw [hl]
  generalize M (ds.map Sl.dat ++ List.replicate (N.length - ps.length) Sl.un) = z at h
  cases z with
  | nx r => exact fun ad' σ' G' H' s' _ => h .non G' H' s'.hst .non
  | rt d r => exact fun v ad' σ' G' H' s' pv => h v G' H' s'.hst pv
  | rtO l r => exact h.elim
  | exc c fs => exact fun dd fv G' H' s' hd pf => h dd fv G' H' s' hd pf
  | bk r => exact h.elim
  | ct r => exact h.elim
  | bad => exact h.elim
/-- a def as the facts tell it -/
theorem dfn_mk {h : Heap} {x : Str} {st : Stmt} {ps : List Str} {f : Addr} {oc : Value} {od an : Option Addr} {osl : Array (Option Value)} {kV doc pm cdv ct : Value} (X : K.In h) (G : h.Ns mainGlobals mg) (a : PySem.W.nsIn K mainGlobals x = some (some (.ref f)))
    (l : K.lookup f = some ⟨oc, od, .func (PySem.W.fnOf x x (defArgs st) (defBody st) (defScope st) .none kV doc pm an cdv ct), osl⟩) (c : PySem.W.codeIn K cdv x = true) (k : PySem.W.keepIn K (.ref f) = true)
    (b : ∀ (kV doc pm : Value) (an : Option Addr) (cdv ct : Value) (us : List Value), us.length = ps.length → bindArgs (PySem.W.fnOf x x (defArgs st) (defBody st) (defScope st) .none kV doc pm an cdv ct) ⟨us, []⟩ = pure (ps.zip us)) : Dfn K mg x st ps :=
  ⟨f, _, fun_mk (st := st) l c k, PySem.W.mg_of X G a, (fun_mk (st := st) l c k).binds b⟩
theorem dfnL_mk {h : Heap} {x : Str} {st : Stmt} {ps : List Str} {f c0 : Addr} {oc : Value} {od an : Option Addr} {osl : Array (Option Value)} {kV doc pm ct : Value} (X : K.In h) (G : h.Ns mainGlobals mg) (a : PySem.W.nsIn K mainGlobals x = some (some (.ref f)))
    (l : K.lookup f = some ⟨oc, od, .func (PySem.W.fnOf x x (defArgs st) (defBody st) (defScope st) .none kV doc pm an (.ref c0) ct), osl⟩) (c : PySem.W.codeIn K (.ref c0) x = true) (k : PySem.W.keepIn K (.ref f) = true)
    (b : ∀ (kV doc pm : Value) (an : Option Addr) (cdv ct : Value) (us : List Value), us.length = ps.length → bindArgs (PySem.W.fnOf x x (defArgs st) (defBody st) (defScope st) .none kV doc pm an cdv ct) ⟨us, []⟩ = pure (ps.zip us)) : DfnL K mg x st ps c0 :=
  ⟨f, oc, od, kV, doc, pm, an, ct, osl, l, c, k, PySem.W.mg_of X G a, (fun_mk (st := st) l c k).binds b⟩
theorem dfnD_mk {h : Heap} {x : Str} {st : Stmt} {f T0 : Addr} {oc : Value} {od an : Option Addr} {osl : Array (Option Value)} {kV doc pm cdv ct : Value} {o : Obj} {its : List Value} {n : Nat} {dvs : List V} (X : K.In h) (G : h.Ns mainGlobals mg) (a : PySem.W.nsIn K mainGlobals x = some (some (.ref f)))
    (l : K.lookup f = some ⟨oc, od, .func (PySem.W.fnOf x x (defArgs st) (defBody st) (defScope st) (.ref T0) kV doc pm an cdv ct), osl⟩) (c : PySem.W.codeIn K cdv x = true) (k : PySem.W.keepIn K (.ref f) = true)
    (lT : K.lookup T0 = some o) (oT : o.data = .seq its.toArray n) (r : Vals dvs its) (ne : dvs ≠ []) : DfnD K mg x st dvs :=
  ⟨f, _, ⟨⟨oc, od, .ref T0, kV, doc, pm, an, cdv, ct, osl, rfl, l, c, .inr ⟨ne, T0, o, its, n, rfl, lT, oT, r⟩, .inl rfl⟩, k⟩, PySem.W.mg_of X G a⟩
theorem gc_int {h : Heap} {x : Str} {i : Int} {t : Tok} (X : K.In h) (G : h.Ns mainGlobals mg) (a : PySem.W.nsIn K mainGlobals x = some (some (.int i t))) : ∃ u v, mg x = some u ∧ L2.RelV v u ∧ ∀ G, Rp K G v (.int i) :=
  ⟨_, .int i, PySem.W.mg_of X G a, ⟨t, rfl⟩, fun _ => .int i⟩
theorem gc_str {h : Heap} {x : Str} {i : Str} {t : Tok} (X : K.In h) (G : h.Ns mainGlobals mg) (a : PySem.W.nsIn K mainGlobals x = some (some (.str i t))) : ∃ u v, mg x = some u ∧ L2.RelV v u ∧ ∀ G, Rp K G v (.str i) :=
  ⟨_, .str i, PySem.W.mg_of X G a, ⟨t, rfl⟩, fun _ => .str i⟩
/-- a tuple of ints and texts, written at the top -/
theorem gc_tup {h : Heap} {x : Str} {a : Addr} {o : Obj} {its : List Value} {n : Nat} {xs : List V} {ds : List D} (X : K.In h) (G : h.Ns mainGlobals mg) (e : PySem.W.nsIn K mainGlobals x = some (some (.ref a))) (l : K.lookup a = some o) (hc : o.cls = .type "tuple") (hd : o.dict = none)
    (hs : o.data = .seq its.toArray n) (r : Vals xs its) (p : ∀ G, RpL K G xs ds) (hl : its.length ≤ 1000) : ∃ a o, mg x = some (.ref a) ∧ K.lookup a = some o ∧ o.cls = .type "tuple" ∧ o.dict = none ∧ ∀ G, Rp K G (.ref a) (.cst ds) :=
  ⟨a, o, PySem.W.mg_of X G e, l, hc, hd, fun G => .cst (.inr ⟨o, its.toArray, n, l, hc, hs, by rw [List.size_toArray, sizeLine_eq]; omega, by simpa using r⟩) (p G)⟩
theorem g_of_k {x : Str} {d : D} (h : ∃ a o, mg x = some (.ref a) ∧ K.lookup a = some o ∧ o.cls = .type "tuple" ∧ o.dict = none ∧ ∀ G, Rp K G (.ref a) d) : ∃ u v, mg x = some u ∧ L2.RelV v u ∧ ∀ G, Rp K G v d := by
  obtain ⟨a, o, m, _, _, _, r⟩ := h
  exact ⟨.ref a, .ref a, m, rfl, r⟩
theorem exm_mk {C1 C2 : Addr} {b : Bool} {nm q : Str} {N : Addr} {bs bm : List Value} {hdct : Bool} {sn : List Str} {sub : List Value} {ab : Bool} {col : Option Bool} {dd : Option Addr} {k0 k1 k2 k3 k5 : Option Value} {nw : String} (l : K.lookup C2 = some (excClassObj nm q C2 N bs bm hdct sn sub ab col dd k0 k1 k2 k3 k5 nw))
    (e : PySem.W.subIn K (.ref C2) (.type "BaseException") = some true) (t : PySem.W.typeIn K (.ref C2) = some (.type "type")) (s : PySem.W.subIn K (.ref C1) (.ref C2) = some b) : PySem.W.exmOne K (.ref C1) (.ref C2) = some b := by
  have c : (PySem.W.clsIn K C2).isSome = true := by unfold PySem.W.clsIn; rw [l] <;> rfl
  unfold PySem.W.exmOne PySem.W.kitCls
  rw [e, if_pos (by rfl)]
  simp only [c, t]
  rw [if_pos (by rfl)]
  exact s
theorem chd_mk {c P : Addr} {o : Obj} (l : K.lookup c = some o) (h : PySem.W.codeHdIn [(c, o)] c P = true) : PySem.W.codeHdIn K c P = true := by
  unfold PySem.W.codeHdIn at h ⊢
  have e : List.lookup c [(c, o)] = some o := by simp [List.lookup]
  rw [e] at h
  rw [l]
  exact h
end
end DL

/-! Evaluation rules for the plain law. -/
namespace DL
open PySem PySem.Spec PyProof.Rows L2
section
variable {r : DEnv} {a b c : ME} {i j k : Nat}
@[simp] theorem ev_sSeq (a b : MS) : sSeq a b r = match a r with
  | .nx r1 => b r1
  | x => x := rfl
@[simp] theorem ev_sNil : sNil r = .nx r := rfl
@[simp] theorem ev_sIf (c : ME) (a b : MS) : sIf c a b r = match c r with
  | .ok (.bl true) r1 => a r1
  | .ok (.bl false) r1 => b r1
  | .exc x fs => .exc x fs
  | _ => .bad := rfl
@[simp] theorem ev_sRet : sRet a r = match a r with
  | .ok d r1 => .rt d r1
  | .exc x fs => .exc x fs
  | .bad => .bad := rfl
@[simp] theorem ev_sAsg : sAsg i a r = match a r with
  | .ok d r1 => .nx (r1.set i (.dat d))
  | .exc x fs => .exc x fs
  | .bad => .bad := rfl
@[simp] theorem ev_sExp : sExp a r = match a r with
  | .ok _ r1 => .nx r1
  | .exc x fs => .exc x fs
  | .bad => .bad := rfl
@[simp] theorem ev_mC (d : D) : mC d r = .ok d r := rfl
@[simp] theorem ev_mV : mV i r = match r[i]? with
  | some (.dat d) => .ok d r
  | _ => .bad := rfl
@[simp] theorem ev_bind_ok {d : D} {f : D → DEnv → ER} : bindE (.ok d r) f = f d r := rfl
@[simp] theorem ev_bind_exc {c : Str} {fs : List (Str × D)} {f : D → DEnv → ER} : bindE (.exc c fs) f = .exc c fs := rfl
@[simp] theorem ev_bind_bad {f : D → DEnv → ER} : bindE .bad f = .bad := rfl
@[simp] theorem ev_opt_some {d : D} : optE (some d) r = .ok d r := rfl
@[simp] theorem ev_opt_none : optE none r = .bad := rfl
@[simp] theorem ev_mOp {g : D → D → Option D} : mOp g a b r = bindE (a r) fun x r1 => bindE (b r1) fun y r2 => optE (g x y) r2 := rfl
@[simp] theorem ev_mUn {g : D → Option D} : mUn g a r = bindE (a r) fun x r1 => optE (g x) r1 := rfl
@[simp] theorem ev_aNil : aNil r = .ok [] r := rfl
@[simp] theorem ev_aCons {b : MA} : aCons a b r = match a r with
  | .ok x r1 => (match b r1 with
    | .ok l r2 => .ok (x :: l) r2
    | .exc c fs => .exc c fs
    | .bad => .bad)
  | .exc c fs => .exc c fs
  | .bad => .bad := rfl
@[simp] theorem ev_mAgs {g : List D → Option D} {b : MA} : mAgs g b r = match b r with
  | .ok l r1 => optE (g l) r1
  | .exc c fs => .exc c fs
  | .bad => .bad := rfl
@[simp] theorem ev_mAnd : mAnd a b r = bindE (a r) fun x r1 => match x with
  | .bl true => b r1
  | .bl false => .ok (.bl false) r1
  | _ => .bad := rfl
@[simp] theorem ev_mOr : mOr a b r = bindE (a r) fun x r1 => match x with
  | .bl true => .ok (.bl true) r1
  | .bl false => b r1
  | _ => .bad := rfl
@[simp] theorem ev_mNot : mNot a r = bindE (a r) fun x r1 => optE (gNot x) r1 := rfl
@[simp] theorem ev_gNot {b : Bool} : gNot (.bl b) = some (.bl (!b)) := rfl
@[simp] theorem ev_mIf : mIf a b c r = bindE (a r) fun x r1 => match x with
  | .bl true => b r1
  | .bl false => c r1
  | _ => .bad := rfl
@[simp] theorem ev_mChain {g g' : D → D → Option D} : mChain g g' a b c r = bindE (a r) fun x r1 => bindE (b r1) fun y r2 => match g x y with
  | some (.bl true) => bindE (c r2) fun z r3 => optE (g' y z) r3
  | some (.bl false) => .ok (.bl false) r2
  | _ => .bad := rfl
end
section
variable {i j : Int}
@[simp] theorem ev_iAdd : iAdd (.int i) (.int j) = some (.int (i + j)) := rfl
@[simp] theorem ev_iSub : iSub (.int i) (.int j) = some (.int (i - j)) := rfl
@[simp] theorem ev_iMul : iMul (.int i) (.int j) = if (-(2 ^ 64) < i ∧ i < 2 ^ 64) ∨ (-(2 ^ 64) < j ∧ j < 2 ^ 64) then some (.int (i * j)) else none := rfl
@[simp] theorem ev_iDiv : iDiv (.int i) (.int j) = if 0 < j ∧ j < 1073741824 then some (.int (i / j)) else none := rfl
@[simp] theorem ev_iMod : iMod (.int i) (.int j) = if 0 < j then some (.int (i % j)) else none := rfl
@[simp] theorem ev_iPow : iPow (.int i) (.int j) = if 0 ≤ j ∧ j ≤ 1000000 ∧ i.natAbs < 2 ^ 64 then some (.int (i ^ j.toNat)) else none := rfl
@[simp] theorem ev_iLt : iLt (.int i) (.int j) = some (.bl (decide (i < j))) := rfl
@[simp] theorem ev_iLe : iLe (.int i) (.int j) = some (.bl (decide (i ≤ j))) := rfl
@[simp] theorem ev_iGt : iGt (.int i) (.int j) = some (.bl (decide (j < i))) := rfl
@[simp] theorem ev_iGe : iGe (.int i) (.int j) = some (.bl (decide (j ≤ i))) := rfl
@[simp] theorem ev_iNeg : iNeg (.int i) = some (.int (-i)) := rfl
@[simp] theorem ev_b1 {g : D → Option D} {x : D} : b1 g [x] = g x := rfl
@[simp] theorem ev_gInt : gInt (.int i) = some (.int i) := rfl
@[simp] theorem ev_gTupD {l : List D} : gTupD l = if l.length ≤ 16777216 then some (.tup l) else none := by simp [gTupD, short]
@[simp] theorem ev_gLstD {l : List D} : gLstD l = if l.length ≤ 16777216 then some (.lst l) else none := by simp [gLstD, short]
@[simp] theorem ev_gLen_l {l : List D} : gLen (.lst l) = some (.int l.length) := rfl
@[simp] theorem ev_gLen_t {l : List D} : gLen (.tup l) = some (.int l.length) := rfl
@[simp] theorem ev_gLen_c {l : List D} : gLen (.cst l) = some (.int l.length) := rfl
@[simp] theorem ev_gLen_s {l : List Int} : gLen (.scr l) = some (.int l.length) := rfl
@[simp] theorem ev_gIx_l {l : List D} : gIx (.lst l) (.int i) = atI l i := rfl
@[simp] theorem ev_gIx_t {l : List D} : gIx (.tup l) (.int i) = atI l i := rfl
@[simp] theorem ev_gIx_c {l : List D} : gIx (.cst l) (.int i) = atI l i := rfl
@[simp] theorem ev_gIx_s {l : List Int} : gIx (.scr l) (.int i) = (atI l i).map .int := rfl
@[simp] theorem atI_zero {α : Type} {l : List α} : atI l 0 = l[0]? := by
  unfold atI ixN
  cases l <;> simp
theorem atI_nat {α : Type} (l : List α) (n : Nat) : atI l (n : Int) = l[n]? := by
  unfold atI ixN
  rw [if_pos (by omega)]
  by_cases h : n < l.length
  · rw [if_pos (by omega)]; simp
  · rw [if_neg (by omega)]; symm; simp; omega
@[simp] theorem atI_1 {α : Type} {l : List α} : atI l 1 = l[1]? := atI_nat l 1
@[simp] theorem atI_2 {α : Type} {l : List α} : atI l 2 = l[2]? := atI_nat l 2
@[simp] theorem atI_3 {α : Type} {l : List α} : atI l 3 = l[3]? := atI_nat l 3
@[simp] theorem atI_4 {α : Type} {l : List α} : atI l 4 = l[4]? := atI_nat l 4
@[simp] theorem atI_5 {α : Type} {l : List α} : atI l 5 = l[5]? := atI_nat l 5
@[simp] theorem atI_6 {α : Type} {l : List α} : atI l 6 = l[6]? := atI_nat l 6
@[simp] theorem atI_7 {α : Type} {l : List α} : atI l 7 = l[7]? := atI_nat l 7
@[simp] theorem atI_8 {α : Type} {l : List α} : atI l 8 = l[8]? := atI_nat l 8
@[simp] theorem atI_9 {α : Type} {l : List α} : atI l 9 = l[9]? := atI_nat l 9
@[simp] theorem gEq_int : gEq (.int i) (.int j) = some (.bl (i == j)) := rfl
@[simp] theorem gNe_int : gNe (.int i) (.int j) = some (.bl (!(i == j))) := rfl
theorem eqB_self {d : D} (h : okEq d = true) : eqB d d = true := SeqAt.eqv_refl _ (SeqAt.canLay_of_shaped h)
theorem gNe_self {d : D} (h : okEq d = true) : gNe d d = some (.bl false) := by
  unfold gNe
  rw [h, eqB_self h]
  rfl
theorem gEq_self {d : D} (h : okEq d = true) : gEq d d = some (.bl true) := by
  unfold gEq
  rw [h, eqB_self h]
  rfl
end
end DL

/-! Classes: instances that never change once they are made. -/
namespace DL
open PySem PySem.Spec PyProof.Rows L2 LamX

abbrev glob (K : PySem.W.Frag) (c : Str) (Ca : Addr) : Prop := PySem.W.nsIn K mainGlobals c = some (some (.ref Ca))
theorem glob_inj {K : PySem.W.Frag} {c : Str} {a b : Addr} (h : glob K c a) (k : glob K c b) : a = b := by
  unfold glob at h k
  rw [h] at k
  injection k with k
  injection k with k
  injection k
structure ClsF (K : PySem.W.Frag) (c : Str) : Prop where
  ex : ∃ Ca, glob K c Ca ∧ L2.Cls K Ca
structure NoF (K : PySem.W.Frag) (c f : Str) : Prop where
  ex : ∃ Ca, glob K c Ca ∧ NoAttr K Ca f
theorem RpF.lookup {K : PySem.W.Frag} {G : Hp} : ∀ {fs : List (Str × D)} {fv : List (Str × V)} {f : Str} {d : D}, RpF K G fv fs → fs.lookup f = some d → ∃ v, fv.lookup f = some v ∧ Rp K G v d
  | _, _, f, d, .nil, e => by cases e
  | _, _, f, d, .cons (x := x) h1 h2, e => by
    simp only [List.lookup_cons] at e ⊢
    cases q : f == x with
    | true => rw [q] at e; cases e; exact ⟨_, rfl, h1⟩
    | false => rw [q] at e; exact RpF.lookup h2 e
theorem RpF.lookup_none {K : PySem.W.Frag} {G : Hp} : ∀ {fs : List (Str × D)} {fv : List (Str × V)} {f : Str}, RpF K G fv fs → fs.lookup f = none → fv.lookup f = none
  | _, _, f, .nil, e => rfl
  | _, _, f, .cons (x := x) h1 h2, e => by
    simp only [List.lookup_cons] at e ⊢
    cases q : f == x with
    | true => rw [q] at e; cases e
    | false => rw [q] at e; exact RpF.lookup_none h2 e
def dputF (f : Str) (v : D) : List (Str × D) → List (Str × D)
  | [] => [(f, v)]
  | (g, x) :: r => if g = f then (g, v) :: r else (g, x) :: dputF f v r
theorem RpF.put {K : PySem.W.Frag} {G : Hp} {f : Str} {v : V} {d : D} (p : Rp K G v d) : ∀ {fs : List (Str × D)} {fv : List (Str × V)}, RpF K G fv fs → RpF K G (putF f v fv) (dputF f d fs)
  | _, _, .nil => .cons p .nil
  | _, _, .cons (x := x) h1 h2 => by
    unfold putF dputF
    by_cases h : x = f
    · rw [if_pos h, if_pos h]; exact .cons p h2
    · rw [if_neg h, if_neg h]; exact .cons h1 (RpF.put p h2)
theorem RpF.length {K : PySem.W.Frag} {G : Hp} : ∀ {fs : List (Str × D)} {fv : List (Str × V)}, RpF K G fv fs → fv.length = fs.length
  | _, _, .nil => rfl
  | _, _, .cons _ h => congrArg (· + 1) h.length
/-- o.f -/
def gFld (c f : Str) (d : D) : Option D := match d with
  | .obj c' fs => if c' = c then fs.lookup f else none
  | _ => none
section
variable {X : Cx} {C : Fc} {E : XK} {pos : Pos}
theorem tE_un {q : V → Hp → VK → Prop} {g : D → Option D} {m : ME} (hg : UnD C q g) : ∀ σ H Q, tE C E (mUn g m) σ H Q → tE C E m σ H (fun x H1 => q x H1 Q) := by
  intro σ H Q ⟨r, ad, G, s, k⟩
  refine ⟨r, ad, G, s, ?_⟩
  unfold mUn at k
  cases ea : m r with
  | bad => rw [ea] at k; exact k.elim
  | exc c fs => rw [ea] at k; exact k
  | ok x r1 =>
    simp only [bindE, ea] at k
    intro v G1 H1 s1 g1 p1
    cases eg : g x with
    | none => rw [eg] at k; exact k.elim
    | some d =>
      rw [eg] at k
      exact hg G1 H1 v x d Q s1.hst p1 eg fun w G3 H3 gr p3 => k w G3 H3 (s1.grow gr) (g1.trans (Kp.grow gr)) p3
theorem tE_mono {m : ME} {σ : L2.St} {H : Hp} {Q Q' : VK} (i : ∀ v H, Q v H → Q' v H) (h : tE C E m σ H Q) : tE C E m σ H Q' := by
  obtain ⟨r, ad, G, s, k⟩ := h
  refine ⟨r, ad, G, s, ?_⟩
  unfold kE at k ⊢
  cases e : m r with
  | bad => rw [e] at k; exact k
  | exc c fs => rw [e] at k; exact k
  | ok d r1 => rw [e] at k; exact fun v G' H' s' k' p' => i _ _ (k v G' H' s' k' p')
theorem e_fld {c f : Str} {e : Expr} {m : ME} (cf : ClsF X.K c) (nf : NoF X.K c f) (h : PE X e (tE C E m)) (hK : C.K = X.K := by rfl) (hb : attributeBase e f X.env (eval e X.env) = eval e X.env := by rfl) : PE X (.Attribute e f pos) (tE C E (mUn (gFld c f) m)) := by
  refine PE.imp (pe_fld h hb) fun σ H Q h => ?_
  refine tE_un (C := C) (E := E) (q := fun x H1 Q => ∃ a Ca dx fs v, x = .ref a ∧ H1 a = some (.ins Ca dx fs) ∧ L2.Cls X.K Ca ∧ NoAttr X.K Ca f ∧ fs.lookup f = some v ∧ Q v H1) (g := gFld c f) (m := m) ?_ σ H Q h
  intro G H v d d' Q s p e k
  cases p with
  | ins h0 h1 h2 h3 =>
    rename_i a dx Ca c' fv fs
    unfold gFld at e
    simp only at e
    by_cases hc : c' = c
    · subst hc
      rw [if_pos rfl] at e
      obtain ⟨Cb, b1, b2⟩ := cf.ex
      obtain ⟨Cc, c1, c2⟩ := nf.ex
      rw [hK] at h0
      have e1 := glob_inj h0 b1
      have e2 := glob_inj h0 c1
      subst e1 e2
      obtain ⟨v, v1, v2⟩ := h3.lookup e
      exact ⟨_, _, _, _, v, rfl, s.sub _ _ h1, b2, c2, v1, k v G H (Grow.refl s) v2⟩
    · rw [if_neg hc] at e; cases e
  | _ => cases e
/-! ### the fields of the instance that an __init__ fills -/
def mFldO (i : Nat) (c f : Str) : ME := fun r => match r[i]? with
  | some (.ownI c' fs) => if c' = c then optE (fs.lookup f) r else .bad
  | _ => .bad
theorem e_fldO {i : Nat} {x f c : Str} {p : Pos} (cf : ClsF X.K c) (nf : NoF X.K c f) (hK : C.K = X.K := by rfl) (hN : X.N[i]? = some x := by rfl) (hv : Vis X.env.scope x := by first | exact Or.inl rfl | exact Or.inr (Or.inl rfl) | exact Or.inr (Or.inr rfl))
    (hd : (x == ("__debug__" : Str)) = false := by decide) (hcd : (x == ("__classdict__" : Str)) = false := by decide) (hb : attributeBase (.Name x p) f X.env (eval (.Name x p) X.env) = eval (.Name x p) X.env := by rfl) :
    PE X (.Attribute (.Name x p) f pos) (tE C E (mFldO i c f)) := by
  refine PE.imp (pe_fld (pe_var hN hv hd hcd) hb) fun σ H Q ⟨r, ad, G, s, k⟩ => ?_
  unfold mFldO at k
  split at k
  · rename_i c' fs e
    by_cases ec : c' = c
    rotate_left
    · rw [if_neg ec] at k; exact k.elim
    rw [if_pos ec] at k
    subst ec
    obtain ⟨h1, h2, h3, Ca, dx, fv, q0, q1, q2, q3, q4, q5⟩ := s.ownI i c' fs e
    cases el : fs.lookup f with
    | none => rw [el] at k; exact k.elim
    | some d =>
      rw [el] at k
      obtain ⟨v, v1, v2⟩ := q4.lookup el
      obtain ⟨Cb, b1, b2⟩ := cf.ex
      obtain ⟨Cc, c1, c2⟩ := nf.ex
      rw [hK] at q0
      have e1 := glob_inj q0 b1
      have e2 := glob_inj q0 c1
      subst e1 e2
      exact ⟨_, h1, _, _, _, _, v, rfl, q1, b2, c2, v1, k v G H s (Kp.refl _ _ _ _ _) v2⟩
  · exact k.elim
theorem Stt.putI {r : DEnv} {ad : Nat → Addr} {σ : L2.St} {G H : Hp} {Ca dx : Addr} {fv : List (Str × V)} (s : Stt C r ad σ G H) {i : Nat} {c : Str} {fs fs' : List (Str × D)} (e : r[i]? = some (.ownI c fs)) (g0 : glob C.K c Ca) (h1 : H (ad i) = some (.ins Ca dx fv)) (h2 : H dx = some (.own (ad i))) (h3 : G dx = none) (h5 : ∃ Cb gs, C.H0 (ad i) = some (.ins Cb dx gs)) {fv' : List (Str × V)} (p : RpF C.K G fv' fs') :
    Stt C (r.set i (.ownI c fs')) ad σ G (upd H (ad i) (.ins Ca dx fv')) := by
  obtain ⟨a1, a2, a3, a4⟩ := s.ownI i c fs e
  have oi : isOwn r i := .inr (.inr ⟨c, fs, e⟩)
  have sub : ∀ j, isOwn (r.set i (.ownI c fs')) j → isOwn r j := fun j h => by
    rcases own_set h with z | z
    · rw [z]; exact oi
    · exact z
  refine ⟨s.hst.put a3 (.inr ⟨a2, trivial⟩) (ne_of_some h1) (fun ps z => by rw [h1] at z; cases z) (fun c q z => by rw [h1] at z; cases z), by simpa using s.len, fun j d' q => ?_, fun j k' m q => ?_, fun j t m q => ?_, fun j c' m q => ?_, fun j k' a b => s.inj j k' (sub j a) (sub k' b)⟩
  · rcases get_set q with ⟨_, q, _⟩ | ⟨n, q⟩
    · cases q
    · exact s.dat j d' q
  · rcases get_set q with ⟨_, q, _⟩ | ⟨n, q⟩
    · cases q
    · obtain ⟨z1, z2, z3, zs, z4, z5⟩ := s.own j k' m q
      have ne : ad j ≠ ad i := fun z => n (s.inj j i (.inl ⟨k', m, q⟩) oi z)
      exact ⟨z1, z2, z3, zs, by rw [upd_ne ne]; exact z4, z5⟩
  · rcases get_set q with ⟨_, q, _⟩ | ⟨n, q⟩
    · cases q
    · obtain ⟨z1, z2, z3, z4⟩ := s.ownD j t m q
      have ne : ad j ≠ ad i := fun z => n (s.inj j i (.inr (.inl ⟨t, m, q⟩)) oi z)
      exact ⟨z1, z2, z3, z4.up (Same.refl _) (upd_ne ne)⟩
  · rcases get_set q with ⟨rfl, q, _⟩ | ⟨n, q⟩
    · cases q
      refine ⟨a1, a2, a3, Ca, dx, fv', g0, upd_same, ?_, h3, p, h5⟩
      rw [upd_ne]
      · exact h2
      · intro z; rw [z, h1] at h2; cases h2
    · obtain ⟨z1, z2, z3, z4⟩ := s.ownI j c' m q
      have ne : ad j ≠ ad i := fun z => n (s.inj j i (.inr (.inr ⟨c', m, q⟩)) oi z)
      refine ⟨z1, z2, z3, z4.up (Same.refl _) (fun b u z y => ?_) fun _ _ z => z⟩
      rw [upd_ne]
      · exact z
      · rcases y with y | y
        · rw [y]; exact ne
        · intro y'; rw [y', h1, y] at z; cases z
/-- self.f = e -/
def sFldO (i : Nat) (c f : Str) (m : ME) : MS := fun r => match m r with
  | .ok d r1 => (match r1[i]? with
    | some (.ownI c' fs) => if c' = c ∧ fs.length < 1000 then .nx (r1.set i (.ownI c (dputF f d fs))) else .bad
    | _ => .bad)
  | .exc c fs => .exc c fs
  | .bad => .bad
theorem s_fldO {i : Nat} {x f c : Str} {e : Expr} {m : ME} {p p2 : Pos} (cf : ClsF X.K c) (nf : NoF X.K c f) (he : PE X e (tE C E m)) (hK : C.K = X.K := by rfl) (hN : X.N[i]? = some x := by rfl) (hv : Vis X.env.scope x := by first | exact Or.inl rfl | exact Or.inr (Or.inl rfl) | exact Or.inr (Or.inr rfl))
    (hd : (x == ("__debug__" : Str)) = false := by decide) (hcd : (x == ("__classdict__" : Str)) = false := by decide) (hs : swapsWith e (some (.Attribute (.Name x p) f p2)) pos.line X.env = pure false := by rfl) :
    PS X (.Assign [.Attribute (.Name x p) f p2] e pos) (tS C E (sFldO i c f m)) := by
  refine PS.imp (ps_fld (pe_var hN hv hd hcd) he hs) fun Dn σ H ⟨r, ad, G, s, k⟩ => ⟨r, ad, G, s, ?_⟩
  unfold sFldO at k
  unfold kE
  cases em : m r with
  | bad => simp only [em] at k; exact k.elim
  | exc c fs => simp only [em] at k; exact k
  | ok d r1 =>
    simp only [em] at k
    intro v G1 H1 s1 k1 p1
    split at k
    · rename_i c' fs e'
      split at k
      · rename_i hl
        obtain ⟨ec, hl⟩ := hl
        subst ec
        obtain ⟨a1, a2, a3, Ca, dx, fv, q0, q1, q2, q3, q4, q5⟩ := s1.ownI i c' fs e'
        obtain ⟨Cb, b1, b2⟩ := cf.ex
        obtain ⟨Cc, c1, c2⟩ := nf.ex
        have q0' := q0
        rw [hK] at q0'
        have e1 := glob_inj q0' b1
        have e2 := glob_inj q0' c1
        subst e1 e2
        refine ⟨_, a1, _, _, _, _, rfl, q1, b2, c2, by rw [q4.length]; exact hl, ?_⟩
        exact k ad σ G1 _ (s1.putI e' q0 q1 q2 q3 q5 (RpF.put p1 q4)) k1.g
      · exact k.elim
    · exact k.elim
/-! ### o.m(..) -/
structure MtD (P : Program) (w : World) (K : PySem.W.Frag) (mg : Str → Option Value) (base : Heap) (k : Nat) (c m : Str) (sp : Sp) : Prop where
  ex : ∃ Ca f fd ps, glob K c Ca ∧ L2.Cls K Ca ∧ Meth K Ca m f ∧ FnOk P w K mg base (L2.CX P w) k f fd ps sp ∧ Binds K fd ps []
def isObj (c m : Str) : D → Bool
  | .obj c' fs => decide (c' = c) && (fs.lookup m).isNone
  | _ => false
def mMeth (c m : Str) (F : List D → FR) (o : ME) (a : MA) : ME := fun r => match o r with
  | .ok x r0 => if isObj c m x then (match a r0 with
    | .ok ds r1 => (match F (x :: ds) with
      | .ok d => .ok d r1
      | .own l => .ok (.lst l) r1
      | .exc c fs => .exc c fs
      | .bad => .bad)
    | .exc c fs => .exc c fs
    | .bad => .bad) else .bad
  | .exc c fs => .exc c fs
  | .bad => .bad
def mMethO (c m : Str) (F : List D → FR) (o : ME) (a : MA) : MA := fun r => match o r with
  | .ok x r0 => if isObj c m x then (match a r0 with
    | .ok ds r1 => (match F (x :: ds) with
      | .own l => .ok l r1
      | .exc c fs => .exc c fs
      | _ => .bad)
    | .exc c fs => .exc c fs
    | .bad => .bad) else .bad
  | .exc c fs => .exc c fs
  | .bad => .bad
theorem obj_ins {G : Hp} {v : V} {x : D} {c m : Str} {Ca : Addr} (h : isObj c m x = true) (p : Rp C.K G v x) (g : glob C.K c Ca) : ∃ a dx fv, v = .ref a ∧ G a = some (.ins Ca dx fv) ∧ fv.lookup m = none := by
  cases p with
  | ins h0 h1 h2 h3 =>
    rename_i a dx Cb c' fv fs
    simp only [isObj, Bool.and_eq_true, decide_eq_true_eq] at h
    obtain ⟨rfl, n⟩ := h
    have e := glob_inj h0 g
    subst e
    exact ⟨a, dx, fv, rfl, h1, h3.lookup_none (by simpa using n)⟩
  | _ => cases h
theorem tE_meth {c m : Str} {Ca : Addr} {F : List D → FR} {o : ME} {a : MA} (g : glob C.K c Ca) : ∀ σ H Q, tE C E (mMeth c m F o a) σ H Q → tMeth Ca m (spF C.K C.cls F) [] E (tE C E o) (tA C E a) σ H Q := by
  intro σ H Q ⟨r, ad, G, s, k⟩
  refine ⟨r, ad, G, s, ?_⟩
  unfold mMeth at k
  unfold kE at k ⊢
  cases eo : o r with
  | bad => simp only [eo] at k
  | exc c fs => simp only [eo] at k; exact k
  | ok x r0 =>
    simp only [eo] at k
    intro v G0 H0 s0 k0 p0
    by_cases io : isObj c m x = true
    rotate_left
    · rw [if_neg io] at k; exact k.elim
    rw [if_pos io] at k
    obtain ⟨a1, dx, fv, rfl, b1, b2⟩ := obj_ins (C := C) io p0 g
    refine ⟨a1, dx, fv, rfl, s0.hst.sub _ _ b1, b2, r0, ad, G0, s0, ?_⟩
    unfold kA
    cases ea : a r0 with
    | bad => simp only [ea] at k
    | exc c fs => simp only [ea] at k; exact k
    | ok ds r1 =>
      simp only [ea] at k
      intro vs G1 H1 s1 k1 p1
      rw [List.append_nil]
      refine ⟨G1, x :: ds, s1.hst.sub, s1.hst.gnt, .cons (p0.up k1.g) p1, ?_⟩
      cases eF : F (x :: ds) with
      | bad => simp only [eF] at k
      | exc c fs =>
        simp only [eF] at k
        exact fun dd fv G2 H2 gr hd pf => k dd fv G2 H2 (s1.hst.grow gr) hd pf
      | ok d =>
        simp only [eF] at k
        exact fun v G2 H2 gr pv => k v G2 H2 (s1.grow gr) ((k0.trans k1).trans (Kp.grow gr)) pv
      | own l =>
        simp only [eF] at k
        intro p xs G2 H2 gr n g h pv
        have s2 := s1.grow gr
        have np : ∀ j, isOwn r1 j → ad j ≠ p := fun j hj z => s1.own_ne hj (by rw [z]; exact n)
        have s3 := s2.still g (new_H0 s1 n) h (fun _ z => nomatch z) np
        refine k (.ref p) _ H2 s3 ((k0.trans k1).trans ((Kp.grow gr).still n g)) (.lst upd_same (pv.up (same_upd g)))
theorem tO_meth {c m : Str} {Ca : Addr} {F : List D → FR} {o : ME} {a : MA} (g : glob C.K c Ca) : ∀ σ H Q, tO C E (mMethO c m F o a) σ H Q → tMeth Ca m (spF C.K C.cls F) [] E (tE C E o) (tA C E a) σ H Q := by
  intro σ H Q ⟨r, ad, G, s, k⟩
  refine ⟨r, ad, G, s, ?_⟩
  unfold mMethO at k
  unfold kO at k
  unfold kE
  cases eo : o r with
  | bad => simp only [eo] at k
  | exc c fs => simp only [eo] at k; exact k
  | ok x r0 =>
    simp only [eo] at k
    intro v G0 H0 s0 k0 p0
    by_cases io : isObj c m x = true
    rotate_left
    · rw [if_neg io] at k; exact k.elim
    rw [if_pos io] at k
    obtain ⟨a1, dx, fv, rfl, b1, b2⟩ := obj_ins (C := C) io p0 g
    refine ⟨a1, dx, fv, rfl, s0.hst.sub _ _ b1, b2, r0, ad, G0, s0, ?_⟩
    unfold kA
    cases ea : a r0 with
    | bad => simp only [ea] at k
    | exc c fs => simp only [ea] at k; exact k
    | ok ds r1 =>
      simp only [ea] at k
      intro vs G1 H1 s1 k1 p1
      rw [List.append_nil]
      refine ⟨G1, x :: ds, s1.hst.sub, s1.hst.gnt, .cons (p0.up k1.g) p1, ?_⟩
      cases eF : F (x :: ds) with
      | bad => simp only [eF] at k
      | exc c fs =>
        simp only [eF] at k
        exact fun dd fv G2 H2 gr hd pf => k dd fv G2 H2 (s1.hst.grow gr) hd pf
      | ok d => simp only [eF] at k
      | own l =>
        simp only [eF] at k
        intro p xs G2 H2 gr n g h pv
        have n0 : H p = none := by
          cases q : H p with
          | none => rfl
          | some o => exact absurd n ((k0.trans k1).dom p (by rw [q]; simp))
        exact k p xs G2 H2 (s1.grow gr) ((k0.trans k1).trans (Kp.grow gr)) n0 g h pv
variable {o e : Expr} {es : List Expr} {c m : Str} {k j : Nat} {F : List D → FR} {mo : ME} {a : MA} {apos : Pos} {pl : Sem Bool}
theorem e_meth (d : MtD X.prog X.w X.K X.mg X.base k c m (spF C.K C.cls F)) (hr : Room j X.A) (hx : Passes (L2.CX X.prog X.w) X E) (ho : PE X o (tE C E mo)) (ha : PA X (e :: es) (tA C E a)) (hk : k ≤ j := by decide) (hK : C.K = X.K := by rfl)
    (hst : starEach (e :: es) X.env = (false, eval e X.env) :: starEach es X.env := by rfl) (hpl : (backTo pos (starEach es X.env)).any (·.1) = false := by rfl)
    (ht : eval (.Call (.Attribute o m apos) (e :: es) [] pos) X.env = (do
      let ov ← eval o X.env
      standAt apos.atName
      let (f, first) ← holding [ov] (getMethod ov m pl)
      callWith pos f first (backTo pos (starEach (e :: es) X.env)) (backToKw pos (keywordEach [] X.env))) := by rfl) :
    PE X (.Call (.Attribute o m apos) (e :: es) [] pos) (tE C E (mMeth c m F mo a)) := by
  obtain ⟨Ca, f, fd, ps, g, cl, mt, fn, b⟩ := d.ex
  exact PE.imp (pe_meth (dvs := []) ho cl mt fn (hr.mono hk) b .nil hx ha hst hpl ht) (tE_meth (by rw [hK]; exact g))
theorem o_meth (d : MtD X.prog X.w X.K X.mg X.base k c m (spF C.K C.cls F)) (hr : Room j X.A) (hx : Passes (L2.CX X.prog X.w) X E) (ho : PE X o (tE C E mo)) (ha : PA X (e :: es) (tA C E a)) (hk : k ≤ j := by decide) (hK : C.K = X.K := by rfl)
    (hst : starEach (e :: es) X.env = (false, eval e X.env) :: starEach es X.env := by rfl) (hpl : (backTo pos (starEach es X.env)).any (·.1) = false := by rfl)
    (ht : eval (.Call (.Attribute o m apos) (e :: es) [] pos) X.env = (do
      let ov ← eval o X.env
      standAt apos.atName
      let (f, first) ← holding [ov] (getMethod ov m pl)
      callWith pos f first (backTo pos (starEach (e :: es) X.env)) (backToKw pos (keywordEach [] X.env))) := by rfl) :
    PE X (.Call (.Attribute o m apos) (e :: es) [] pos) (tO C E (mMethO c m F mo a)) := by
  obtain ⟨Ca, f, fd, ps, g, cl, mt, fn, b⟩ := d.ex
  exact PE.imp (pe_meth (dvs := []) ho cl mt fn (hr.mono hk) b .nil hx ha hst hpl ht) (tO_meth (by rw [hK]; exact g))
theorem e_meth0 (d : MtD X.prog X.w X.K X.mg X.base k c m (spF C.K C.cls F)) (hr : Room j X.A) (hx : Passes (L2.CX X.prog X.w) X E) (ho : PE X o (tE C E mo)) (hk : k ≤ j := by decide) (hK : C.K = X.K := by rfl)
    (ht : eval (.Call (.Attribute o m apos) [] [] pos) X.env = (do
      let ov ← eval o X.env
      standAt apos.atName
      let (f, first) ← holding [ov] (getMethod ov m pl)
      callWith pos f first (backTo pos (starEach [] X.env)) (backToKw pos (keywordEach [] X.env))) := by rfl) :
    PE X (.Call (.Attribute o m apos) [] [] pos) (tE C E (mMeth c m F mo aNil)) := by
  obtain ⟨Ca, f, fd, ps, g, cl, mt, fn, b⟩ := d.ex
  refine PE.imp (pe_meth0 (dvs := []) ho cl mt fn (hr.mono hk) b .nil hx ht) fun σ H Q h => ?_
  have q := tE_meth (C := C) (E := E) (c := c) (m := m) (Ca := Ca) (F := F) (o := mo) (a := aNil) (by rw [hK]; exact g) σ H Q h
  refine tE_mono (fun x H1 q => ?_) q
  obtain ⟨a, dx, fs, e1, e2, e3, r, ad, G, s, k⟩ := q
  exact ⟨a, dx, fs, e1, e2, e3, k [] G H1 s (Kp.refl _ _ _ _ _) .nil⟩
theorem o_meth0 (d : MtD X.prog X.w X.K X.mg X.base k c m (spF C.K C.cls F)) (hr : Room j X.A) (hx : Passes (L2.CX X.prog X.w) X E) (ho : PE X o (tE C E mo)) (hk : k ≤ j := by decide) (hK : C.K = X.K := by rfl)
    (ht : eval (.Call (.Attribute o m apos) [] [] pos) X.env = (do
      let ov ← eval o X.env
      standAt apos.atName
      let (f, first) ← holding [ov] (getMethod ov m pl)
      callWith pos f first (backTo pos (starEach [] X.env)) (backToKw pos (keywordEach [] X.env))) := by rfl) :
    PE X (.Call (.Attribute o m apos) [] [] pos) (tO C E (mMethO c m F mo aNil)) := by
  obtain ⟨Ca, f, fd, ps, g, cl, mt, fn, b⟩ := d.ex
  refine PE.imp (pe_meth0 (dvs := []) ho cl mt fn (hr.mono hk) b .nil hx ht) fun σ H Q h => ?_
  have q := tO_meth (C := C) (E := E) (c := c) (m := m) (Ca := Ca) (F := F) (o := mo) (a := aNil) (by rw [hK]; exact g) σ H Q h
  refine tE_mono (fun x H1 q => ?_) q
  obtain ⟨a, dx, fs, e1, e2, e3, r, ad, G, s, k⟩ := q
  exact ⟨a, dx, fs, e1, e2, e3, k [] G H1 s (Kp.refl _ _ _ _ _) .nil⟩
end
/-! ### C(..): an instance is made -/
inductive IR where
  | ok (fs : List (Str × D))
  | exc (c : Str) (fs : List (Str × D))
  | bad
def runI (c : Str) (M : MS) (n k : Nat) (ds : List D) : IR := if ds.length + 1 = n then (match M (.ownI c [] :: ds.map .dat ++ List.replicate k .un) with
  | .nx (.ownI c' fs :: _) => if c' = c then .ok fs else .bad
  | .exc x fs => .exc x fs
  | _ => .bad) else .bad
def spN (K : PySem.W.Frag) (cls : Str → Addr) (c : Str) (F : List D → IR) : Sp := fun vs H Q E => ∃ G a Ca dx us ds, vs = .ref a :: us ∧ Same G H ∧ (∀ b ps, G b ≠ some (.tbl ps)) ∧ G a = none ∧ glob K c Ca ∧ H a = some (.ins Ca dx []) ∧ H dx = some (.own a) ∧ G dx = none ∧ RpL K G us ds ∧
  match F ds with
  | .ok fs => ∀ fv G' H', GrowX a G H G' H' → H' a = some (.ins Ca dx fv) → H' dx = some (.own a) → G' dx = none → RpF K G' fv fs → Q .non H'
  | .exc x fs => ∀ dd fv G' H', GrowX a G H G' H' → H' dd = some (.xd fv) → RpF K G' fv fs → E (.ref (cls x)) (some dd) H'
  | .bad => False
theorem stt_startN {C : Fc} {N : List Str} {G H : Hp} {a Ca dx : Addr} {c : Str} {us : List V} {ds : List D} (hs : Hst C G H) (ga : G a = none) (g : glob C.K c Ca) (ha : H a = some (.ins Ca dx [])) (hd : H dx = some (.own a)) (gd : G dx = none) (io : a ∈ C.io) (h0 : C.H0 a = some (.ins Ca dx [])) (p : RpL C.K G us ds) (hn : ds.length + 1 ≤ N.length) :
    Stt C (.ownI c [] :: ds.map .dat ++ List.replicate (N.length - (ds.length + 1)) .un) (fun _ => a) (L2.start N (.ref a :: us)) G H := by
  have at_ : ∀ (i : Nat) (x : Sl), (Sl.ownI c [] :: ds.map Sl.dat ++ List.replicate (N.length - (ds.length + 1)) Sl.un)[i]? = some x → (i = 0 ∧ x = .ownI c []) ∨ (∃ j d, i = j + 1 ∧ x = .dat d ∧ ds[j]? = some d) ∨ x = .un := by
    intro i x h
    cases i with
    | zero => simp at h; exact .inl ⟨rfl, h.symm⟩
    | succ i =>
      rw [List.cons_append, List.getElem?_cons_succ] at h
      by_cases hi : i < ds.length
      · rw [List.getElem?_append_left (by simpa using hi), List.getElem?_map] at h
        cases e : ds[i]? with
        | none => rw [e] at h; cases h
        | some d => rw [e] at h; cases h; exact .inr (.inl ⟨i, d, rfl, rfl, e⟩)
      · rw [List.getElem?_append_right (by simpa using hi), List.getElem?_replicate] at h
        split at h
        · cases h; exact .inr (.inr rfl)
        · cases h
  have one : ∀ i, isOwn (Sl.ownI c [] :: ds.map Sl.dat ++ List.replicate (N.length - (ds.length + 1)) Sl.un) i → i = 0 := by
    intro i h
    rcases h with ⟨k, m, h⟩ | ⟨t, m, h⟩ | ⟨t, m, h⟩ <;> rcases at_ i _ h with ⟨e, _⟩ | ⟨j, d, _, e, _⟩ | e <;> first | exact e | cases e
  refine ⟨hs, ?_, fun i d h => ?_, fun i k m h => ?_, fun i t m h => ?_, fun i t m h => ?_, fun i j h1 h2 _ => (one i h1).trans (one j h2).symm⟩
  · unfold L2.start
    have := p.length
    simp only [List.length_append, List.length_map, List.length_replicate, List.length_cons]
    omega
  · rcases at_ i _ h with ⟨_, e⟩ | ⟨j, d', rfl, e, h'⟩ | e
    · cases e
    · cases e
      obtain ⟨v, e1, e2⟩ := p.get h'
      exact ⟨v, start_get (by simpa using e1), e2⟩
    · cases e
  · rcases at_ i _ h with ⟨rfl, e⟩ | ⟨j, d', rfl, e, h'⟩ | e <;> cases e
  · rcases at_ i _ h with ⟨rfl, e⟩ | ⟨j, d', rfl, e, h'⟩ | e <;> cases e
  · rcases at_ i _ h with ⟨rfl, e⟩ | ⟨j, d', rfl, e, h'⟩ | e
    · cases e
      exact ⟨start_get rfl, io, ga, Ca, dx, [], g, ha, hd, gd, .nil, _, _, h0⟩
    · cases e
    · cases e
structure MkD (P : Program) (w : World) (K : PySem.W.Frag) (mg : Str → Option Value) (base : Heap) (k : Nat) (c : Str) (sp : Sp) : Prop where
  ex : ∃ Ca f fd ps, glob K c Ca ∧ mg c = some (.ref Ca) ∧ Mk K Ca f ∧ FnOk P w K mg base (L2.CX P w) k f fd ps sp ∧ Binds K fd ps []
section
variable {P : Program} {w : World} {K : PySem.W.Frag} {mg : Str → Option Value} {base : Heap} {cls : Str → Addr}
theorem fnN {x qual c : Str} {st : Stmt} {f : Addr} {fd : FuncData} {N ps : List Str} {k : Nat} {M : MS} (F : Fun K x qual st f fd) (S : FnScope N ps (defScope st))
    (hbody : ∀ (cdv : Value) (A : Around) (outer : List Env) (s : Shared) (H G : Hp) (E : XK) (a : Addr), Room k (A.deeper (envOfC qual (defScope st) s.heap.objs.size f cdv)) →
      PSs (cxOf (L2.CX P w) P w K mg base N qual (defScope st) f cdv A outer s H E) (defBody st) (tS (fcQ K cls G H a) E M)) :
    FnOk P w K mg base (L2.CX P w) (k + 1) f fd ps (spN K cls c (runI c M ps.length (N.length - ps.length))) := by
  have hpl : ps.length ≤ N.length := by have := congrArg List.length S.pre; rw [List.length_take] at this; omega
  have hlen : ∀ {ds : List D}, runI c M ps.length (N.length - ps.length) ds ≠ .bad → ds.length + 1 = ps.length := by
    intro ds h
    unfold runI at h
    by_cases e : ds.length + 1 = ps.length
    · exact e
    · rw [if_neg e] at h; exact absurd rfl h
  refine F.okX S (fun vs H Q E h => ?_) (fun cdv A outer s H vs Q E hr h => ?_)
  · obtain ⟨G, a, Ca, dx, us, ds, rfl, _, _, _, _, _, _, _, p, h⟩ := h
    rw [List.length_cons, p.length]
    exact hlen fun z => by rw [z] at h; exact h
  · obtain ⟨G, a, Ca, dx, us, ds, rfl, sub, gnt, ga, g, ha, hd, gd, p, h⟩ := h
    refine ⟨_, hbody cdv A outer s H G E a hr, ?_⟩
    have hl : ds.length + 1 = ps.length := hlen fun z => by rw [z] at h; exact h
    have hst : Hst (fcQ K cls G H a) G H := ⟨sub, gnt, Same.refl _, fun _ z => z, fun _ z => z, fun _ _ z _ _ => z, fun _ _ z => z, fun p hp => by cases hp⟩
    have st := stt_startN (C := fcQ K cls G H a) (N := N) hst ga g ha hd gd (by simp) ha p (by rw [hl]; exact hpl)
    refine ⟨_, _, G, st, ?_⟩
    unfold runI at h
    rw [if_pos hl] at h
    rw [hl]
    generalize M (Sl.ownI c [] :: ds.map Sl.dat ++ List.replicate (N.length - ps.length) Sl.un) = z at h
    cases z with
    | nx r =>
      cases r with
      | nil => exact h.elim
      | cons q r =>
        cases q with
        | ownI c' fs =>
          simp only at h
          by_cases ec : c' = c
          · subst ec
            rw [if_pos rfl] at h
            intro ad' σ' G' H' s' _
            obtain ⟨h1, h2, h3, Cb, dy, fv, q0, q1, q2, q3, q4, Cc, gs, q5⟩ := s'.ownI 0 c' fs rfl
            have e : ad' 0 = a := by simpa using h2
            rw [e] at q1 q2 q5
            have eC := glob_inj q0 g
            subst eC
            rw [show (fcQ K cls G H a).H0 = H from rfl, ha] at q5
            cases q5
            exact h fv G' H' s'.hst.growX q1 q2 q3 q4
          · rw [if_neg ec] at h; exact h.elim
        | _ => exact h.elim
    | exc x fs => exact fun dd fv G' H' s' hd pf => h dd fv G' H' s'.growX hd pf
    | _ => exact h.elim
theorem mkN {c : Str} {st : Stmt} (N ps : List Str) (M : MS) (n j k : Nat) (hn : ps.length = n) (hj : N.length - ps.length = j) {Ca f : Addr} {fd : FuncData} {qual : Str} (g : glob K c Ca) (m : mg c = some (.ref Ca)) (mk : Mk K Ca f) (F : Fun K "__init__" qual st f fd) (b : Binds K fd ps []) (S : FnScope N ps (defScope st))
    (hbody : ∀ (cdv : Value) (A : Around) (outer : List Env) (s : Shared) (H G : Hp) (E : XK) (a : Addr), Room k (A.deeper (envOfC qual (defScope st) s.heap.objs.size f cdv)) →
      PSs (cxOf (L2.CX P w) P w K mg base N qual (defScope st) f cdv A outer s H E) (defBody st) (tS (fcQ K cls G H a) E M)) :
    MkD P w K mg base (k + 1) c (spN K cls c (runI c M n j)) := by
  subst hn hj
  exact ⟨Ca, f, fd, ps, g, m, mk, fnN F S hbody, b⟩
end
section
variable {X : Cx} {C : Fc} {E : XK} {pos p : Pos} {e : Expr} {es : List Expr} {c : Str} {k j : Nat} {F : List D → IR} {a : MA}
def mMake (c : Str) (F : List D → IR) (a : MA) : ME := fun r => match a r with
  | .ok ds r1 => (match F ds with
    | .ok fs => .ok (.obj c fs) r1
    | .exc x fs => .exc x fs
    | .bad => .bad)
  | .exc x fs => .exc x fs
  | .bad => .bad
theorem e_make (d : MkD X.prog X.w X.K X.mg X.base k c (spN C.K C.cls c F)) (hr : Room j X.A) (hx : Passes (L2.CX X.prog X.w) X E) (ha : PA X (e :: es) (tA C E a)) (hk : k + 1 ≤ j := by decide) (hK : C.K = X.K := by rfl) (hg : Gl X c := by rfl) (hdb : (c == ("__debug__" : Str)) = false := by decide)
    (he : starEach (e :: es) X.env = (false, eval e X.env) :: starEach es X.env := by rfl) (hpl : (backTo pos (starEach es X.env)).any (·.1) = false := by rfl) : PE X (.Call (.Name c p) (e :: es) [] pos) (tE C E (mMake c F a)) := by
  obtain ⟨Ca, f, fd, ps, g, m, mk, fn, b⟩ := d.ex
  refine PE.imp (pe_make (dvs := []) mk fn (hr.mono hk) hg m b .nil hx ha hdb he hpl) fun σ H Q ⟨r, ad, G, s, k⟩ => ⟨r, ad, G, s, ?_⟩
  unfold mMake at k
  unfold kE at k
  unfold kA
  cases ea : a r with
  | bad => simp only [ea] at k
  | exc c fs => simp only [ea] at k; exact k
  | ok ds r1 =>
    simp only [ea] at k
    intro vs G1 H1 s1 k1 p1 x dx nx nd ne
    rw [List.append_nil]
    have gx : G1 x = none := s1.hst.sub.free nx
    have gd : G1 dx = none := s1.hst.sub.free nd
    have old : ∀ {b : Addr} {o : HO}, H1 b = some o → (upd (upd H1 dx (.own x)) x (.ins Ca dx [])) b = some o := fun {b o} q => by
      rw [upd_ne (ne_of_none q nx), upd_ne (ne_of_none q nd)]; exact q
    refine ⟨G1, x, Ca, dx, vs, ds, rfl, fun b o q => old (s1.hst.sub b o q), s1.hst.gnt, gx, by rw [hK]; exact g, upd_same, by rw [upd_ne ne, upd_same], gd, p1, ?_⟩
    cases eF : F ds with
    | bad => simp only [eF] at k
    | exc y fs =>
      simp only [eF] at k
      intro dd fv G2 H2 gr hd pf
      refine k dd fv G2 H2 (s1.hst.grow ⟨gr.g, fun b o q => gr.h b o (old q) (ne_of_none q nx), gr.sub, gr.gnt, fun b n z => gr.nofz b ?_ z⟩) hd pf
      cases q : H1 b with
      | none => rw [q] at n; exact n.elim
      | some o => rw [old q]; rw [q] at n; exact n
    | ok fs =>
      simp only [eF] at k
      intro fv G2 H2 gr h1 h2 h3 pf
      refine ⟨rfl, ?_⟩
      have g2x : G2 x = none := gr.nofz x (show wr ((upd (upd H1 dx (.own x)) x (.ins Ca dx [])) x) by rw [upd_same]; trivial) gx
      have gr1 : Grow G1 H1 G2 H2 := ⟨gr.g, fun b o q => gr.h b o (old q) (ne_of_none q nx), gr.sub, gr.gnt, fun b n z => gr.nofz b (by
        cases q : H1 b with
        | none => rw [q] at n; exact n.elim
        | some o => rw [old q]; rw [q] at n; exact n) z⟩
      have sd : Same G2 (upd G2 dx (.own x)) := same_upd h3
      have g3x : (upd G2 dx (.own x)) x = none := by rw [upd_ne (Ne.symm ne)]; exact g2x
      have sx : Same (upd G2 dx (.own x)) (upd (upd G2 dx (.own x)) x (.ins Ca dx fv)) := same_upd g3x
      have gr2 : Grow G1 H1 (upd (upd G2 dx (.own x)) x (.ins Ca dx fv)) H2 := by
        refine ⟨(gr1.g.trans sd).trans sx, gr1.h, fun b o q => ?_, fun b ps q => ?_, fun b n z => ?_⟩
        · by_cases hb : b = x
          · rw [hb, upd_same] at q; cases q; rw [hb]; exact h1
          · rw [upd_ne hb] at q
            by_cases hb2 : b = dx
            · rw [hb2, upd_same] at q; cases q; rw [hb2]; exact h2
            · rw [upd_ne hb2] at q; exact gr1.sub b o q
        · by_cases hb : b = x
          · rw [hb, upd_same] at q; cases q
          · rw [upd_ne hb] at q
            by_cases hb2 : b = dx
            · rw [hb2, upd_same] at q; cases q
            · rw [upd_ne hb2] at q; exact gr1.gnt b ps q
        · have hb : b ≠ x := fun hb => by rw [hb, nx] at n; exact n
          have hb2 : b ≠ dx := fun hb => by rw [hb, nd] at n; exact n
          rw [upd_ne hb, upd_ne hb2]
          exact gr1.nofz b n z
      exact k (.ref x) _ H2 (s1.grow gr2) (k1.trans (Kp.grow gr2)) (.ins (by rw [hK]; exact g) upd_same (by rw [upd_ne ne, upd_same]) (pf.up (sd.trans sx)))
end
end DL

/-! Walks: enumerate, zip, items; slices. -/
namespace DL
open PySem PySem.Spec PyProof.Rows L2 LamX RZ
section
variable {X : Cx} {C : Fc} {E : XK} {pos : Pos}
def pairD (x y : D) : D := .tup [x, y]
/-- pairs, each a new tuple -/
theorem wk_pair {G : Hp} {J : It} {n : Nat} {P : Hp → Prop} {f g : Nat → Option V} {fd gd : Nat → Option D} {ds : List D} (w : Walk J n P (YPair f g)) (hn : n = ds.length) (hP : ∀ H, Same G H → P H)
    (hf : ∀ i v, f i = some v → ∃ d, fd i = some d ∧ Rp C.K G v d) (hg : ∀ i v, g i = some v → ∃ d, gd i = some d ∧ Rp C.K G v d) (hd : ∀ i x y, i < n → fd i = some x → gd i = some y → ds[i]? = some (.tup [x, y])) : WkD C G J ds := by
  subst hn
  refine ⟨Walk.mono w hP fun i H x H' hi q y => ?_⟩
  obtain ⟨T, u, v, rfl, hT, rfl, e1, e2⟩ := y
  intro G1 g1 s1 n1
  obtain ⟨d1, a1, a2⟩ := hf i u e1
  obtain ⟨d2, b1, b2⟩ := hg i v e2
  have gr : Grow G1 H (upd G1 T (.tup [u, v])) (upd H T (.tup [u, v])) := Grow.lay s1 n1 hT (fun _ z => nomatch z)
  exact ⟨_, gr, .tup [d1, d2], hd i d1 d2 hi a1 b1, .tup upd_same (.cons (a2.up (g1.trans gr.g)) (.cons (b2.up (g1.trans gr.g)) .nil))⟩
theorem RpL.get2 {K : PySem.W.Frag} {G : Hp} {vs : List V} {l : List D} {i : Nat} {v : V} (h : RpL K G vs l) (e : vs[i]? = some v) : ∃ d, l[i]? = some d ∧ Rp K G v d := by
  have hi : i < vs.length := lt_of_get e
  rw [h.length] at hi
  obtain ⟨v', e1, e2⟩ := h.get (i := i) (d := l[i]) (by simp [hi])
  rw [e] at e1
  cases e1
  exact ⟨l[i], by simp [hi], e2⟩
/-! ### enumerate -/
def enumD (l : List D) : List D := l.mapIdx fun i d => .tup [.int (i : Nat), d]
/-- what is walked, made of arguments -/
def mIt (g : List D → Option (List D)) (a : MA) : MA := fun r => match a r with
  | .ok ds r1 => (match g ds with
    | some l => .ok l r1
    | none => .bad)
  | .exc c fs => .exc c fs
  | .bad => .bad
theorem tI_it {g : List D → Option (List D)} {a : MA} {q : List V → Hp → (It → Hp → Prop) → Prop} (hq : ∀ G H vs ds l R, Hst C G H → RpL C.K G vs ds → g ds = some l → (∀ J, WkD C G J l → R J H) → q vs H R) {σ : L2.St} {H : Hp} {R : It → Hp → Prop} (h : tI C E (mIt g a) σ H R) :
    tA C E a σ H (fun vs H1 => q vs H1 R) := by
  obtain ⟨r, ad, G, s, k⟩ := h
  refine ⟨r, ad, G, s, ?_⟩
  unfold mIt at k
  unfold kI at k
  unfold kA
  cases ea : a r with
  | bad => simp only [ea] at k
  | exc c fs => simp only [ea] at k; exact k
  | ok ds r1 =>
    simp only [ea] at k
    intro vs G1 H1 s1 k1 p1
    cases eg : g ds with
    | none => simp only [eg] at k
    | some l =>
      simp only [eg] at k
      exact hq G1 H1 vs ds l R s1.hst p1 eg fun J w => k J G1 H1 s1 k1 w
def enumOf (ds : List D) : Option (List D) := match ds with
  | [.lst l] => some (enumD l)
  | _ => none
theorem i_enum {elts : List Expr} {kk : Nat} {tpos p : Pos} {e : Expr} {a : MA} (hm : X.mg "enumerate" = none) (ha : PA X [e] (tA C E a)) (hK : C.K = X.K := by rfl) (hg : Gl X "enumerate" := by rfl)
    (hs : starEach [e] X.env = (false, eval e X.env) :: starEach [] X.env := by rfl) : PI X (.Tuple elts kk tpos) (.Call (.Name "enumerate" p) [e] [] pos) (tI C E (mIt enumOf a)) := by
  refine PI.imp (pi_enum hg hm ha hs) fun σ H R h => ?_
  refine tI_it (q := fun vs H1 R => ∃ a xs, vs = [.ref a] ∧ SqL X.K H1 a xs ∧ R (Ite X.K a) H1) (fun G1 H1 vs ds ll R s1 p1 eg k => ?_) h
  unfold enumOf at eg
  split at eg
  · rename_i l
    cases eg
    cases p1 with
    | cons pv pt =>
      cases pt
      cases pv with
      | lst hs hp =>
        rename_i q xs
        refine ⟨q, xs, rfl, SqL.of (s1.sub _ _ hs), k _ ?_⟩
        rw [← hK]
        refine wk_pair (fd := fun i => some (.int (i : Nat))) (gd := fun i => l[i]?) walk_enum (by simp [enumD, hp.length]) (fun H q => SqL.of (q _ _ hs)) (fun i v e => ?_) (fun i v e => hp.get2 e) (fun i x y hi e1 e2 => ?_)
        · cases e; exact ⟨_, rfl, .int _⟩
        · cases e1
          simp only [enumD, List.getElem?_mapIdx, e2, Option.map_some]
  · cases eg
/-! ### zip -/
def zipD : List D → List D → List D
  | x :: a, y :: b => .tup [x, y] :: zipD a b
  | _, _ => []
theorem zipD_len : ∀ a b : List D, (zipD a b).length = min a.length b.length
  | [], b => by simp [zipD]
  | x :: a, [] => by simp [zipD]
  | x :: a, y :: b => by simp [zipD, zipD_len a b] <;> omega
theorem zipD_get : ∀ {a b : List D} {i : Nat} {x y : D}, a[i]? = some x → b[i]? = some y → (zipD a b)[i]? = some (.tup [x, y])
  | [], _, _, _, _, e, _ => by simp at e
  | _ :: _, [], _, _, _, _, e => by simp at e
  | x' :: a, y' :: b, 0, x, y, e1, e2 => by simp at e1 e2; subst e1 e2; rfl
  | x' :: a, y' :: b, i + 1, x, y, e1, e2 => by
    simp only [List.getElem?_cons_succ] at e1 e2
    simp only [zipD, List.getElem?_cons_succ]
    exact zipD_get e1 e2
def zipOf (ds : List D) : Option (List D) := match ds with
  | [.lst l, .lst m] => some (zipD l m)
  | [.tup l, .tup m] => some (zipD l m)
  | _ => none
theorem walk_zipT {K : PySem.W.Frag} {a b : Addr} {xs ys : List V} {n : Nat} (hn : n = min xs.length ys.length) : Walk (ItzT K a b) n (fun H => SqT K H a xs ∧ SqT K H b ys) (YPair (fun i => xs[i]?) (fun i => ys[i]?)) := by
  subst hn
  refine ⟨fun i _ hi q => ?_, fun _ q => ⟨xs, ys, q.1, q.2, by omega⟩, fun i H v H' _ q y => ?_⟩
  · have h1 : i < xs.length := by omega
    have h2 : i < ys.length := by omega
    exact ⟨xs, ys, xs[i], ys[i], q.1, q.2, by simp [h1], by simp [h2]⟩
  · obtain ⟨T, x, z, h1, h2, h3, h4, h5⟩ := y
    exact ⟨T, x, z, h1, h2, h3, h4 xs q.1, h5 ys q.2⟩
theorem i_zip {elts : List Expr} {kk : Nat} {tpos p : Pos} {e e2 : Expr} {a : MA} (hm : X.mg "zip" = none) (ha : PA X [e, e2] (tA C E a)) (hK : C.K = X.K := by rfl) (hg : Gl X "zip" := by rfl)
    (hs : starEach [e, e2] X.env = (false, eval e X.env) :: starEach [e2] X.env := by rfl) (hpl : (backTo pos (starEach [e2] X.env)).any (·.1) = false := by rfl) : PI X (.Tuple elts kk tpos) (.Call (.Name "zip" p) [e, e2] [] pos) (tI C E (mIt zipOf a)) := by
  refine PI.imp (pi_zipA hg hm ha hs hpl) fun σ H R h => ?_
  refine tI_it (q := fun vs H1 R => ∃ a b xs ys, vs = [.ref a, .ref b] ∧ ((SqL X.K H1 a xs ∧ SqL X.K H1 b ys ∧ R (Itz X.K a b) H1) ∨ (SqT X.K H1 a xs ∧ SqT X.K H1 b ys ∧ R (ItzT X.K a b) H1))) (fun G1 H1 vs ds ll R s1 p1 eg k => ?_) h
  unfold zipOf at eg
  split at eg
  · rename_i l m
    cases eg
    cases p1 with
    | cons pv pt =>
      cases pt with
      | cons pw pt =>
        cases pt
        cases pv with
        | lst hs hp =>
          cases pw with
          | lst hs2 hp2 =>
            rename_i q xs q2 ys
            refine ⟨q, q2, xs, ys, rfl, .inl ⟨SqL.of (s1.sub _ _ hs), SqL.of (s1.sub _ _ hs2), k _ ?_⟩⟩
            rw [← hK]
            exact wk_pair (fd := fun i => l[i]?) (gd := fun i => m[i]?) (walk_zip rfl) (by rw [zipD_len, hp.length, hp2.length]) (fun H q => ⟨SqL.of (q _ _ hs), SqL.of (q _ _ hs2)⟩) (fun i v e => hp.get2 e) (fun i v e => hp2.get2 e) (fun i x y hi e1 e2 => zipD_get e1 e2)
  · rename_i l m
    cases eg
    cases p1 with
    | cons pv pt =>
      cases pt with
      | cons pw pt =>
        cases pt
        cases pv with
        | tup hs hp =>
          cases pw with
          | tup hs2 hp2 =>
            rename_i q xs q2 ys
            refine ⟨q, q2, xs, ys, rfl, .inr ⟨SqT.of (s1.sub _ _ hs), SqT.of (s1.sub _ _ hs2), k _ ?_⟩⟩
            rw [← hK]
            exact wk_pair (fd := fun i => l[i]?) (gd := fun i => m[i]?) (walk_zipT rfl) (by rw [zipD_len, hp.length, hp2.length]) (fun H q => ⟨SqT.of (q _ _ hs), SqT.of (q _ _ hs2)⟩) (fun i v e => hp.get2 e) (fun i v e => hp2.get2 e) (fun i x y hi e1 e2 => zipD_get e1 e2)
  · cases eg
/-! ### d.items() -/
def mItems (m : ME) : MA := fun r => match m r with
  | .ok (.dct false es) r1 => .ok (es.map fun e => .tup [e.1, e.2]) r1
  | .exc c fs => .exc c fs
  | _ => .bad
theorem RpK.get2 {K : PySem.W.Frag} {G : Hp} : ∀ {es : List (D × D)} {kvs : List (Key × V)} {i : Nat} {k : Key} {v : V}, RpK K G kvs es → kvs[i]? = some (k, v) → ∃ d, es[i]? = some (keyD k, d) ∧ Rp K G v d
  | _, _, _, _, _, .nil, h => by simp at h
  | _, _, 0, ks, v, .cons h1 h2, h => by simp at h; obtain ⟨rfl, rfl⟩ := h; exact ⟨_, rfl, h1⟩
  | _, _, i + 1, ks, v, .cons h1 h2, h => by
    obtain ⟨d, e, q⟩ := RpK.get2 h2 (i := i) (by simpa using h)
    exact ⟨d, by simpa using e, q⟩
theorem i_items {elts : List Expr} {kk : Nat} {tpos apos cpos : Pos} {e : Expr} {m : ME} (he : PE X e (tE C E m)) (hbase : attributeBase e "items" X.env (eval e X.env) = eval e X.env := by rfl) (hline : (apos.endLine == cpos.line) = true := by rfl) :
    PI X (.Tuple elts kk tpos) (.Call (.Attribute e "items" apos) [] [] cpos) (tI C E (mItems m)) := by
  refine PI.imp (pi_items he hbase hline) fun σ H R ⟨r, ad, G, s, k⟩ => ⟨r, ad, G, s, ?_⟩
  unfold mItems at k
  unfold kI at k
  unfold kE
  cases ea : m r with
  | bad => simp only [ea] at k
  | exc c fs => simp only [ea] at k; exact k
  | ok d r1 =>
    simp only [ea] at k
    cases d with
    | dct t es =>
      cases t with
      | true => exact k.elim
      | false =>
        intro v G1 H1 s1 k1 p1
        cases p1 with
        | dK h1 h2 =>
          rename_i q o kvs
          refine ⟨q, o, kvs, rfl, s1.hst.sub _ _ h1, k _ G1 H1 s1 k1 ?_⟩
          refine wk_pair (fd := fun i => es[i]?.map (·.1)) (gd := fun i => es[i]?.map (·.2)) walk_items (by simp [h2.length]) (fun H q => q _ _ h1) (fun i v e => ?_) (fun i v e => ?_) (fun i x y hi e1 e2 => ?_)
          · cases e0 : kvs[i]? with
            | none => rw [e0] at e; cases e
            | some kv =>
              rw [e0] at e
              cases e
              obtain ⟨d, a1, a2⟩ := RpK.get2 h2 (k := kv.1) (v := kv.2) e0
              refine ⟨keyD kv.1, by simp [a1], ?_⟩
              obtain ⟨k0, v0⟩ := kv
              cases k0 with
              | inl i => exact .int i
              | inr s => exact .str s
          · cases e0 : kvs[i]? with
            | none => rw [e0] at e; cases e
            | some kv =>
              rw [e0] at e
              cases e
              obtain ⟨d, a1, a2⟩ := RpK.get2 h2 (k := kv.1) (v := kv.2) e0
              exact ⟨d, by simp [a1], a2⟩
          · cases e0 : es[i]? with
            | none => simp [e0] at e1
            | some q =>
              simp only [e0, Option.map_some, Option.some.injEq] at e1 e2
              subst e1 e2
              simp [e0]
    | _ => exact k.elim
/-! ### slices -/
theorem PO.imp {e : Option Expr} {t t' : TO} (h : PO X e t) (i : ∀ σ H Q, t' σ H Q → t σ H Q) : PO X e t' := ⟨fun pins s σ H Q I q => h.run pins s σ H Q I (i _ _ _ q)⟩
def tPt (C : Fc) (E : XK) (m : ME) : TO := fun σ H Q => tE C E m σ H fun x H1 => (∃ i, x = .int i ∧ Q (some i) H1) ∨ (x = .non ∧ Q none H1)
theorem pt_none : PO X none (tPt C E (mC .non)) := PO.imp po_none fun σ H Q ⟨r, ad, G, s, k⟩ => by
  rcases k .non G H s (Kp.refl _ _ _ _ _) .non with ⟨i, z, _⟩ | ⟨_, q⟩
  · cases z
  · exact q
def mInt (m : ME) : ME := fun r => match m r with
  | .ok (.int i) r1 => .ok (.int i) r1
  | .exc c fs => .exc c fs
  | _ => .bad
theorem pt_some {e : Expr} {m : ME} (h : PE X e (tE C E m)) : PO X (some e) (tPt C E (mInt m)) := PO.imp (po_some h) fun σ H Q ⟨r, ad, G, s, k⟩ => by
  refine ⟨r, ad, G, s, ?_⟩
  unfold mInt at k
  unfold kE at k ⊢
  cases ea : m r with
  | bad => simp only [ea] at k
  | exc c fs => simp only [ea] at k; exact k
  | ok d r1 =>
    simp only [ea] at k
    cases d with
    | int i =>
      intro v G1 H1 s1 k1 p1
      cases p1
      rcases k (.int i) G1 H1 s1 k1 (.int i) with ⟨i', z, q⟩ | ⟨z, _⟩
      · exact ⟨i', z, q⟩
      · cases z
    | _ => exact k.elim
def partD (d : D) : Option (Option Int) := match d with
  | .non => some none
  | .int i => some (some i)
  | _ => none
def cutD (l : List D) (lo hi : Option Int) : List D := (l.drop (HT.sIx l.length 0 lo)).take (HT.sIx l.length l.length hi - HT.sIx l.length 0 lo)
def gSl (x : D) (l h : Option Int) : Option D := match x with
  | .lst m => some (.lst (cutD m l h))
  | .tup m => some (.tup (cutD m l h))
  | _ => none
def mSl (a lo hi : ME) : ME := fun r => bindE (a r) fun x r1 => bindE (lo r1) fun l r2 => match partD l with
  | none => .bad
  | some l' => bindE (hi r2) fun h r3 => (match partD h with
    | none => .bad
    | some h' => optE (gSl x l' h') r3)
theorem RpL.cut {K : PySem.W.Frag} {G : Hp} {vs : List V} {l : List D} (h : RpL K G vs l) (lo hi : Option Int) : RpL K G (cutV vs lo hi) (cutD l lo hi) := by
  have dr : ∀ (n : Nat) {vs : List V} {l : List D}, RpL K G vs l → RpL K G (vs.drop n) (l.drop n) := by
    intro n
    induction n with
    | zero => intro vs l h; exact h
    | succ n ih =>
      intro vs l h
      cases h with
      | nil => exact .nil
      | cons _ t => exact ih t
  have tk : ∀ (n : Nat) {vs : List V} {l : List D}, RpL K G vs l → RpL K G (vs.take n) (l.take n) := by
    intro n
    induction n with
    | zero => intro vs l h; exact .nil
    | succ n ih =>
      intro vs l h
      cases h with
      | nil => exact .nil
      | cons a t => exact .cons a (ih t)
  unfold cutV cutD
  rw [h.length]
  exact tk _ (dr _ h)
theorem e_sl {e : Expr} {lo hi : Option Expr} {m ml mh : ME} {p2 : Pos} (he : PE X e (tE C E m)) (hl : PO X lo (tPt C E ml)) (hh : PO X hi (tPt C E mh)) (hK : C.K = X.K := by rfl) : PE X (.Subscript e (.Slice lo hi none p2) pos) (tE C E (mSl m ml mh)) := by
  refine PE.imp (pe_slice (SlR.or sl_list sl_tupA) he hl hh) fun σ H Q ⟨r, ad, G, s, k⟩ => ⟨r, ad, G, s, ?_⟩
  unfold mSl at k
  unfold kE at k ⊢
  cases ea : m r with
  | bad => simp only [ea, bindE] at k
  | exc c fs => simp only [ea, bindE] at k; exact k
  | ok x r1 =>
    simp only [ea, bindE] at k
    intro v G1 H1 s1 k1 p1
    refine ⟨r1, ad, G1, s1, ?_⟩
    unfold kE
    cases eb : ml r1 with
    | bad => simp only [eb] at k
    | exc c fs => simp only [eb] at k; exact k
    | ok l r2 =>
      simp only [eb] at k
      intro vl G2 H2 s2 k2 p2
      have part : ∀ {v : V} {d : D} {G : Hp} {H : Hp} {R : Option Int → Hp → Prop}, Rp C.K G v d → (∀ o, partD d = some o → R o H) → partD d ≠ none → (∃ i, v = .int i ∧ R (some i) H) ∨ (v = .non ∧ R none H) := by
        intro v d G H R p h n
        cases p with
        | int i => exact .inl ⟨i, rfl, h _ rfl⟩
        | non => exact .inr ⟨rfl, h _ rfl⟩
        | _ => exact absurd rfl n
      cases epl : partD l with
      | none => simp only [epl] at k
      | some lo' =>
        simp only [epl] at k
        refine part (H := H2) (R := fun l H2 => tPt C E mh σ H2 fun u H3 => rSlL X.K v l u H3 Q ∨ rSlA X.K v l u H3 Q) p2 (fun o eo => ?_) (by rw [epl]; simp)
        rw [epl] at eo
        cases eo
        refine ⟨r2, ad, G2, s2, ?_⟩
        unfold kE
        cases ec : mh r2 with
        | bad => simp only [ec] at k
        | exc c fs => simp only [ec] at k; exact k
        | ok h r3 =>
          simp only [ec] at k
          intro vh G3 H3 s3 k3 p3
          cases eph : partD h with
          | none => simp only [eph] at k
          | some hi' =>
            simp only [eph] at k
            refine part (H := H3) (R := fun u H3 => rSlL X.K v lo' u H3 Q ∨ rSlA X.K v lo' u H3 Q) p3 (fun o eo => ?_) (by rw [eph]; simp)
            rw [eph] at eo
            cases eo
            have px := p1.up (k2.g.trans k3.g)
            cases eg : gSl x lo' hi' with
            | none => rw [eg] at k; exact k.elim
            | some d =>
              rw [eg] at k
              cases px with
              | lst hs hp =>
                rename_i a0 xs0 ds0
                cases eg
                refine .inl ⟨_, _, rfl, SqL.of (s3.hst.sub _ _ hs), fun p hp0 => ?_⟩
                have gr := Grow.lay (o := .lst (cutV xs0 lo' hi')) s3.hst.sub s3.hst.gnt hp0 (fun _ z => nomatch z)
                exact k (.ref p) _ _ (s3.grow gr) ((k1.trans (k2.trans k3)).trans (Kp.grow gr)) (.lst upd_same ((hp.cut lo' hi').up gr.g))
              | tup hs hp =>
                rename_i a0 xs0 ds0
                cases eg
                refine .inr ⟨_, _, rfl, SqT.of (s3.hst.sub _ _ hs), fun w => ?_, fun _ p hp0 => ?_⟩
                · refine k _ G3 H3 s3 (k1.trans (k2.trans k3)) ?_
                  refine .tup hs ?_
                  unfold cutD
                  rw [← hp.length, w.1, w.2]
                  rw [List.drop_zero, Nat.sub_zero, hp.length, List.take_length]
                  exact hp
                · have gr := Grow.lay (o := .tup (cutV xs0 lo' hi')) s3.hst.sub s3.hst.gnt hp0 (fun _ z => nomatch z)
                  exact k (.ref p) _ _ (s3.grow gr) ((k1.trans (k2.trans k3)).trans (Kp.grow gr)) (.tup upd_same ((hp.cut lo' hi').up gr.g))
              | _ => cases eg
end
end DL

/-! Dicts of both kinds: keys ints and texts (false), tuples of them (true). -/
namespace DL
open PySem PySem.Spec PyProof.Rows L2 LamX
def isKK (kk : Key) (d : D) : Bool := decide (kD d = some kk)
theorem isKK_key (k k' : Key) : isKK k (keyD k') = decide (k' = k) := by
  unfold isKK
  rw [kD_key]
  by_cases h : k' = k
  · rw [h]; simp
  · rw [decide_eq_false h, decide_eq_false (fun q => h (Option.some.inj q))]
section
variable {K : PySem.W.Frag} {G : Hp}
theorem look_K {ks : Key} : ∀ {es : List (D × D)} {kvs : List (Key × V)}, RpK K G kvs es →
    (dLook (isKK ks) es = none ∧ valV kvs ks = none) ∨ ∃ d v, dLook (isKK ks) es = some d ∧ valV kvs ks = some v ∧ Rp K G v d
  | _, _, .nil => .inl ⟨rfl, rfl⟩
  | _, _, .cons (k := ks') (v := v) (d := d) (r := rr) h1 h2 => by
    unfold dLook
    rw [List.find?_cons]
    simp only [isKK_key]
    by_cases h : ks' = ks
    · rw [decide_eq_true h]
      exact .inr ⟨d, v, rfl, valV_pos h, h1⟩
    · rw [decide_eq_false h]
      have q : valV ((ks', v) :: rr) ks = valV rr ks := by
        unfold valV
        rw [List.find?_cons]
        simp [h]
      rw [q]
      exact look_K h2
theorem any_K {ks : Key} : ∀ {es : List (D × D)} {kvs : List (Key × V)}, RpK K G kvs es → es.any (fun e => isKK ks e.1) = kvs.any fun kv => decide (kv.1 = ks)
  | _, _, .nil => rfl
  | _, _, .cons _ h2 => by
    rw [List.any_cons, List.any_cons, any_K h2, isKK_key]
theorem map_K {ks : Key} {v : V} {d : D} (h : Rp K G v d) : ∀ {es : List (D × D)} {kvs : List (Key × V)}, RpK K G kvs es → RpK K G (kvs.map fun kv => if kv.1 = ks then (kv.1, v) else kv) (es.map fun e => if isKK ks e.1 then (e.1, d) else e)
  | _, _, .nil => .nil
  | _, _, .cons (k := ks') h1 h2 => by
    rw [List.map_cons, List.map_cons]
    simp only [isKK_key]
    by_cases q : ks' = ks
    · rw [if_pos q, if_pos (decide_eq_true q)]
      exact .cons h (map_K h h2)
    · rw [if_neg q, if_neg (by rw [decide_eq_false q]; exact Bool.false_ne_true)]
      exact .cons h1 (map_K h h2)
theorem RpK.snoc {ks : Key} {v : V} {d : D} (h : Rp K G v d) : ∀ {es : List (D × D)} {kvs : List (Key × V)}, RpK K G kvs es → RpK K G (kvs ++ [(ks, v)]) (es ++ [(keyD ks, d)])
  | _, _, .nil => .cons h .nil
  | _, _, .cons h1 h2 => .cons h1 (h2.snoc h)
theorem put_K {ks : Key} {v : V} {d : D} (h : Rp K G v d) {es : List (D × D)} {kvs : List (Key × V)} (p : RpK K G kvs es) : RpK K G (putK kvs ks v) (dPut (isKK ks) (keyD ks) es d) := by
  unfold putK dPut
  rw [any_K p]
  split
  · exact map_K h p
  · exact p.snoc h
/-- what a dict of the kind t holds at the key k: none: not asked so -/
def lookT (t : Bool) (es : List (D × D)) (k : D) : Option (Option D) := match t with
  | false => (kD k).map fun kk => dLook (isKK kk) es
  | true => (tkD k).map fun ks => dLook (isTK ks) es
def putT (t : Bool) (es : List (D × D)) (k d : D) : Option (List (D × D)) := match t with
  | false => (kD k).map fun kk => dPut (isKK kk) k es d
  | true => (tkD k).map fun ks => dPut (isTK ks) k es d
/-- a dict that is read: still, or held alone -/
def DAt (K : PySem.W.Frag) (G H : Hp) (a : Addr) (t : Bool) (es : List (D × D)) : Prop :=
  (t = false ∧ ∃ kvs, Rd H a (.dK kvs) ∧ RpK K G kvs es) ∨ (t = true ∧ ∃ kvs, Rd H a (.dT kvs) ∧ RpT K G kvs es)
theorem DictAt.rd {H : Hp} {a : Addr} {t : Bool} {es : List (D × D)} (h : DictAt K G H a t es) : DAt K G H a t es := by
  rcases h with ⟨z, kvs, h1, h2⟩ | ⟨z, kvs, h1, h2⟩
  · exact .inl ⟨z, kvs, .inl h1, h2⟩
  · exact .inr ⟨z, kvs, .inl h1, h2⟩
theorem Rp.dat {H : Hp} {v : V} {t : Bool} {es : List (D × D)} (sub : Same G H) (h : Rp K G v (.dct t es)) : ∃ a, v = .ref a ∧ DAt K G H a t es := by
  cases h with
  | dK h1 h2 => exact ⟨_, rfl, .inl ⟨rfl, _, .inr ⟨_, sub _ _ h1⟩, h2⟩⟩
  | dT h1 h2 => exact ⟨_, rfl, .inr ⟨rfl, _, .inr ⟨_, sub _ _ h1⟩, h2⟩⟩
theorem DAt.up {G' H : Hp} {a : Addr} {t : Bool} {es : List (D × D)} (h : DAt K G H a t es) (g : Same G G') : DAt K G' H a t es := by
  rcases h with ⟨z, kvs, h1, h2⟩ | ⟨z, kvs, h1, h2⟩
  · exact .inl ⟨z, kvs, h1, RpK.mono g _ _ h2⟩
  · exact .inr ⟨z, kvs, h1, RpT.mono g _ _ h2⟩
theorem DAt.isD {H : Hp} {a : Addr} {t : Bool} {es : List (D × D)} (h : DAt K G H a t es) : IsD H a := by
  rcases h with ⟨_, kvs, h1, _⟩ | ⟨_, kvs, h1, _⟩
  · exact .inl ⟨kvs, h1⟩
  · exact .inr ⟨kvs, h1⟩
theorem tkD_tup {k : D} {ks : List Key} (h : tkD k = some ks) : ∃ l, k = .tup l ∧ ksD l = some ks := by
  cases k <;> first | (cases h; done) | exact ⟨_, rfl, h⟩
def OptR (K : PySem.W.Frag) (G : Hp) (o : Option V) (d : Option D) : Prop := (o = none ∧ d = none) ∨ ∃ v x, o = some v ∧ d = some x ∧ Rp K G v x
theorem dgetX {H : Hp} {a : Addr} {t : Bool} {es : List (D × D)} {k : D} {v : V} {o : Option D} (sub : Same G H) (h : DAt K G H a t es) (p : Rp K G v k) (e : lookT t es k = some o) : ∃ o', DGet H a v o' ∧ OptR K G o' o := by
  rcases h with ⟨rfl, kvs, h1, h2⟩ | ⟨rfl, kvs, h1, h2⟩
  · unfold lookT at e
    simp only at e
    cases ek : kD k with
    | none => rw [ek] at e; cases e
    | some kk =>
      rw [ek] at e
      cases e
      obtain ⟨rfl, _⟩ := kD_rp ek p
      refine ⟨valV kvs kk, .inl ⟨kvs, kk, h1, rfl, rfl⟩, ?_⟩
      rcases look_K (ks := kk) h2 with ⟨a1, a2⟩ | ⟨d, w, a1, a2, a3⟩
      · exact .inl ⟨a2, a1⟩
      · exact .inr ⟨w, d, a2, a1, a3⟩
  · unfold lookT at e
    simp only at e
    cases ek : tkD k with
    | none => rw [ek] at e; cases e
    | some ks =>
      rw [ek] at e
      cases e
      obtain ⟨l, rfl, ek⟩ := tkD_tup ek
      obtain ⟨o, g1, g2⟩ := dget_T sub h1 h2 ek p
      refine ⟨o, g1, ?_⟩
      rcases g2 with ⟨a1, a2⟩ | ⟨d, w, a1, a2, a3⟩
      · exact .inl ⟨a2, a1⟩
      · exact .inr ⟨w, d, a2, a1, a3⟩
end
section
variable {X : Cx} {C : Fc} {E : XK} {pos : Pos}
/-! ### still dicts -/
def gDGet (x y : D) : Option D := match x with
  | .dct t es => (lookT t es y).bind id
  | _ => none
theorem e_dgetF {o ei : Expr} {mo mi : ME} (hu : X.A.units + 1 < cLine) (ho : PE X o (tE C E mo)) (hi : PE X ei (tE C E mi)) (hs : NoSl ei := by exact fun _ _ => rfl) : PE X (.Subscript o ei pos) (tE C E (mOp gDGet mo mi)) := by
  refine PE.imp (pe_dget hu ho hi hs) fun σ H Q h => ?_
  refine tE_op (q := fun x y H2 Q => ∃ a v, x = .ref a ∧ DGet H2 a y (some v) ∧ Q v H2) (g := gDGet) ?_ σ H Q h
  intro G H v1 v2 d1 d2 d Q s p1 p2 e k
  unfold gDGet at e
  split at e <;> first | (cases e; done) | skip
  rename_i t es
  obtain ⟨a, rfl, dat⟩ := p1.dat s.sub
  cases el : lookT t es d2 with
  | none => rw [el] at e; cases e
  | some od =>
    rw [el] at e
    simp only [Option.bind_some, id] at e
    subst e
    obtain ⟨o', g1, g2⟩ := dgetX s.sub dat p2 el
    rcases g2 with ⟨_, z⟩ | ⟨v, x, rfl, z, q⟩
    · cases z
    · cases z
      exact ⟨a, v, rfl, g1, k v G H (Grow.refl s) q⟩
def gDIn (y x : D) : Option D := match x with
  | .dct t es => (lookT t es y).map fun o => .bl o.isSome
  | _ => none
def gDNotIn (y x : D) : Option D := match x with
  | .dct t es => (lookT t es y).map fun o => .bl (!o.isSome)
  | _ => none
theorem optR_some {K : PySem.W.Frag} {G : Hp} {o : Option V} {d : Option D} (h : OptR K G o d) : o.isSome = d.isSome := by
  rcases h with ⟨rfl, rfl⟩ | ⟨_, _, rfl, rfl, _⟩ <;> rfl
theorem op_dinD (hu : X.A.units + 1 < cLine) : OpR X (compareOp .In) (fun y x H Q => ∃ a o, x = .ref a ∧ DGet H a y o ∧ Q (.bl o.isSome) H) := by
  intro pins s σ H y x u v Q I ry rx h
  obtain ⟨a, o, rfl, g, q⟩ := h
  obtain rfl : v = Value.ref a := rx
  exact L2.d_in hu I g ry fun s' I' => ⟨.bl o.isSome, H, I', rfl, q⟩
theorem op_dnotInD (hu : X.A.units + 1 < cLine) : OpR X (compareOp .NotIn) (fun y x H Q => ∃ a o, x = .ref a ∧ DGet H a y o ∧ Q (.bl (!o.isSome)) H) := by
  intro pins s σ H y x u v Q I ry rx h
  obtain ⟨a, o, rfl, g, q⟩ := h
  obtain rfl : v = Value.ref a := rx
  exact L2.d_notIn hu I g ry fun s' I' => ⟨.bl (!o.isSome), H, I', rfl, q⟩
theorem d_din : OpD C (fun y x H Q => ∃ a o, x = .ref a ∧ DGet H a y o ∧ Q (.bl o.isSome) H) gDIn := by
  intro G H v1 v2 d1 d2 d Q s p1 p2 e k
  unfold gDIn at e
  split at e <;> first | (cases e; done) | skip
  rename_i t es
  obtain ⟨a, rfl, dat⟩ := p2.dat s.sub
  cases el : lookT t es d1 with
  | none => rw [el] at e; cases e
  | some od =>
    rw [el] at e
    cases e
    obtain ⟨o', g1, g2⟩ := dgetX s.sub dat p1 el
    exact ⟨a, o', rfl, g1, k _ G H (Grow.refl s) (by rw [optR_some g2]; exact .bl _)⟩
theorem d_dnotIn : OpD C (fun y x H Q => ∃ a o, x = .ref a ∧ DGet H a y o ∧ Q (.bl (!o.isSome)) H) gDNotIn := by
  intro G H v1 v2 d1 d2 d Q s p1 p2 e k
  unfold gDNotIn at e
  split at e <;> first | (cases e; done) | skip
  rename_i t es
  obtain ⟨a, rfl, dat⟩ := p2.dat s.sub
  cases el : lookT t es d1 with
  | none => rw [el] at e; cases e
  | some od =>
    rw [el] at e
    cases e
    obtain ⟨o', g1, g2⟩ := dgetX s.sub dat p1 el
    exact ⟨a, o', rfl, g1, k _ G H (Grow.refl s) (by rw [optR_some g2]; exact .bl _)⟩
/-- d.get(k, e) of a still dict -/
def mDGetF (m mk md : ME) : ME := fun r => match m r with
  | .ok (.dct t es) r1 => (match mk r1 with
    | .ok y r2 => (match md r2 with
      | .ok z r3 => (match lookT t es y with
        | some o => .ok (o.getD z) r3
        | none => .bad)
      | .exc c fs => .exc c fs
      | .bad => .bad)
    | .exc c fs => .exc c fs
    | .bad => .bad)
  | .exc c fs => .exc c fs
  | _ => .bad
theorem e_dget2F {o e f : Expr} {m mk md : ME} {apos cpos : Pos} (hu : X.A.units + 1 < cLine) (ho : PE X o (tE C E m)) (he : PE X e (tE C E mk)) (hf : PE X f (tE C E md)) (m2 : M2 X o "get" apos e f cpos := by exact ⟨rfl, rfl, rfl, rfl⟩) :
    PE X (.Call (.Attribute o "get" apos) [e, f] [] cpos) (tE C E (mDGetF m mk md)) := by
  refine PE.imp (pe_dget2 hu ho he hf m2) fun σ H Q ⟨r, ad, G, s, k⟩ => ⟨r, ad, G, s, ?_⟩
  unfold mDGetF at k
  unfold kE at k ⊢
  cases ea : m r with
  | bad => simp only [ea] at k
  | exc c fs => simp only [ea] at k; exact k
  | ok x r1 =>
    simp only [ea] at k
    cases x with
    | dct t es =>
      intro v G1 H1 s1 k1 p1
      obtain ⟨a, rfl, dat⟩ := p1.dat s1.hst.sub
      refine ⟨a, rfl, dat.isD, r1, ad, G1, s1, ?_⟩
      unfold kE
      simp only at k
      cases eb : mk r1 with
      | bad => simp only [eb] at k
      | exc c fs => simp only [eb] at k; exact k
      | ok y r2 =>
        simp only [eb] at k
        intro vy G2 H2 s2 k2 p2
        refine ⟨r2, ad, G2, s2, ?_⟩
        unfold kE
        cases ec : md r2 with
        | bad => simp only [ec] at k
        | exc c fs => simp only [ec] at k; exact k
        | ok z r3 =>
          simp only [ec] at k
          intro vz G3 H3 s3 k3 p3
          cases el : lookT t es y with
          | none => simp only [el] at k
          | some od =>
            simp only [el] at k
            obtain ⟨a', ea', dat'⟩ := (p1.up (k2.g.trans k3.g)).dat s3.hst.sub
            cases ea'
            obtain ⟨o', g1, g2⟩ := dgetX s3.hst.sub dat' (p2.up k3.g) el
            refine ⟨o', g1, ?_⟩
            rcases g2 with ⟨rfl, rfl⟩ | ⟨w, x, rfl, rfl, q⟩
            · exact k _ G3 H3 s3 (k1.trans (k2.trans k3)) p3
            · exact k _ G3 H3 s3 (k1.trans (k2.trans k3)) q
    | _ => exact k.elim
/-! ### dicts held alone -/
def sNewDK (i : Nat) : MS := fun r => .nx (r.set i (.ownD false []))
theorem s_newDK {i : Nat} {x : Str} {pos' p : Pos} (hN : X.N.Nodup) (hi : X.N[i]? = some x := by rfl) (hx : Loc X.env.scope x := by first | exact Or.inl rfl | exact Or.inr rfl)
    (hs : swapsWith (.Dict [] [] p) (some (.Name x pos')) pos.line X.env = pure false := by rfl) (hf : X.fn x = true ∨ X.env.scope.names.lookup x = some .local := by first | exact .inl rfl | exact .inr rfl | assumption) :
    PS X (.Assign [.Name x pos'] (.Dict [] [] p) pos) (tS C E (sNewDK i)) := by
  refine PS.imp (ps_set hN hi hx pe_dnewK hs hf) fun Dn σ H ⟨r, ad, G, s, k⟩ => ?_
  intro q hq
  have gr : Grow G H G (upd H q (.dK [])) := Grow.layH s.hst.sub s.hst.gnt hq
  have s1 := s.grow gr
  have np : ∀ j, isOwn r j → ad j ≠ q := fun j hj z => s.own_ne hj (by rw [z]; exact hq)
  exact k _ _ G _ (s1.setN np (s.hst.sub.free hq) (new_H0 s hq) (.inr ⟨false, [], rfl, .inl ⟨rfl, [], upd_same, .nil⟩⟩)) (Same.refl _)
def sDPutX (i : Nat) (mk mv : ME) : MS := fun r => match mv r with
  | .ok d r1 => (match r1[i]? with
    | some (.ownD _ _) => (match mk r1 with
      | .ok y r2 => (match r2[i]? with
        | some (.ownD t es) => (match putT t es y d with
          | some es' => if es.length < 16777216 then .nx (r2.set i (.ownD t es')) else .bad
          | none => .bad)
        | _ => .bad)
      | .exc c fs => .exc c fs
      | .bad => .bad)
    | _ => .bad)
  | .exc c fs => .exc c fs
  | .bad => .bad
theorem s_dputX {i : Nat} {x : Str} {ei e : Expr} {mi m : ME} {p p2 : Pos} (hu : X.A.units + 1 < cLine) (hi : PE X ei (tE C E mi)) (he : PE X e (tE C E m)) (hN : X.N[i]? = some x := by rfl) (hv : Vis X.env.scope x := by first | exact Or.inl rfl | exact Or.inr (Or.inl rfl) | exact Or.inr (Or.inr rfl))
    (hd : (x == ("__debug__" : Str)) = false := by decide) (hcd : (x == ("__classdict__" : Str)) = false := by decide)
    (hs : swapsWith e (some (.Subscript (.Name x p) ei p2)) pos.line X.env = pure false := by rfl) :
    PS X (.Assign [.Subscript (.Name x p) ei p2] e pos) (tS C E (sDPutX i mi m)) := by
  refine PS.imp (ps_dput hu (pe_var hN hv hd hcd) hi he hs) fun Dn σ H ⟨r, ad, G, s, k⟩ => ⟨r, ad, G, s, ?_⟩
  unfold sDPutX at k
  unfold kE
  cases em : m r with
  | bad => simp only [em] at k; exact k.elim
  | exc c fs => simp only [em] at k; exact k
  | ok d r1 =>
    simp only [em] at k
    intro v G1 H1 s1 k1 p1
    split at k
    · rename_i t0 l0 e0
      obtain ⟨z1, _⟩ := s1.ownD i t0 l0 e0
      refine ⟨_, z1, r1, ad, G1, s1, ?_⟩
      unfold kE
      cases ei : mi r1 with
      | bad => simp only [ei] at k; exact k.elim
      | exc c fs => simp only [ei] at k; exact k
      | ok y r2 =>
        simp only [ei] at k
        intro vy G2 H2 s2 k2 p2
        split at k
        · rename_i t es er
          cases ep : putT t es y d with
          | none => simp only [ep] at k; exact k.elim
          | some es' =>
            simp only [ep] at k
            split at k
            · rename_i hlen
              obtain ⟨y1, y2, y3, y4⟩ := s2.ownD i t es er
              rcases y4 with ⟨rfl, kvs, y4, y5⟩ | ⟨rfl, kvs, y4, y5⟩
              · unfold putT at ep
                simp only at ep
                cases ek : kD y with
                | none => rw [ek] at ep; cases ep
                | some kk =>
                  rw [ek] at ep
                  cases ep
                  obtain ⟨rfl, rfl⟩ := kD_rp ek p2
                  refine ⟨_, _, rfl, DPut.k (k := kk) y4 (by rw [y5.length, sizeLine_eq]; exact hlen), ?_⟩
                  exact k ad σ G2 _ (s2.putDi er (.inl ⟨rfl, _, upd_same, put_K (p1.up k2.g) y5⟩)) (k1.g.trans k2.g)
              · unfold putT at ep
                simp only at ep
                cases ek : tkD y with
                | none => rw [ek] at ep; cases ep
                | some ks =>
                  rw [ek] at ep
                  cases ep
                  obtain ⟨l, rfl, ek⟩ := tkD_tup ek
                  cases p2 with
                  | tup hs hl =>
                    obtain ⟨q1, q2⟩ := ksD_rp ek hl
                    refine ⟨_, _, rfl, DPut.t (k := ks) y4 (by rw [← q1]; exact s2.hst.sub _ _ hs) (by rw [y5.length, sizeLine_eq]; exact hlen), ?_⟩
                    rw [q2] at k
                    exact k ad σ G2 _ (s2.putDi er (.inr ⟨rfl, _, upd_same, put_T (p1.up k2.g) y5⟩)) (k1.g.trans k2.g)
            · exact k.elim
        · exact k.elim
    · exact k.elim
/-- x[k] -/
def mDIxO (i : Nat) (mk : ME) : ME := fun r => match r[i]? with
  | some (.ownD _ _) => (match mk r with
    | .ok y r1 => (match r1[i]? with
      | some (.ownD t es) => (match lookT t es y with
        | some (some d) => .ok d r1
        | _ => .bad)
      | _ => .bad)
    | .exc c fs => .exc c fs
    | .bad => .bad)
  | _ => .bad
theorem e_dixO {i : Nat} {x : Str} {ei : Expr} {mi : ME} {p : Pos} (hu : X.A.units + 1 < cLine) (hi : PE X ei (tE C E mi)) (hN : X.N[i]? = some x := by rfl) (hv : Vis X.env.scope x := by first | exact Or.inl rfl | exact Or.inr (Or.inl rfl) | exact Or.inr (Or.inr rfl))
    (hd : (x == ("__debug__" : Str)) = false := by decide) (hcd : (x == ("__classdict__" : Str)) = false := by decide) (hs : NoSl ei := by exact fun _ _ => rfl) :
    PE X (.Subscript (.Name x p) ei pos) (tE C E (mDIxO i mi)) := by
  refine PE.imp (pe_dget hu (pe_var hN hv hd hcd) hi hs) fun σ H Q ⟨r, ad, G, s, k⟩ => ?_
  unfold mDIxO at k
  split at k
  · rename_i t0 l0 e0
    obtain ⟨z1, _⟩ := s.ownD i t0 l0 e0
    refine ⟨_, z1, r, ad, G, s, ?_⟩
    unfold kE at k ⊢
    cases ei : mi r with
    | bad => simp only [ei] at k
    | exc c fs => simp only [ei] at k; exact k
    | ok y r1 =>
      simp only [ei] at k
      intro vy G1 H1 s1 k1 p1
      cases er : r1[i]? with
      | none => simp only [er] at k
      | some q =>
        simp only [er] at k
        cases q with
        | ownD t es =>
          simp only at k
          cases el : lookT t es y with
          | none => simp only [el] at k
          | some od =>
            simp only [el] at k
            cases od with
            | none => exact k.elim
            | some d =>
              simp only at k
              obtain ⟨y1, y2, y3, y4⟩ := s1.ownD i t es er
              obtain ⟨o', g1, g2⟩ := dgetX s1.hst.sub y4.rd p1 el
              rcases g2 with ⟨_, z⟩ | ⟨w, x, rfl, z, q⟩
              · cases z
              · cases z
                exact ⟨_, w, rfl, g1, k w G1 H1 s1 k1 q⟩
        | _ => exact k.elim
  · exact k.elim
/-- x.get(k, e) -/
def mDGetO (i : Nat) (mk md : ME) : ME := fun r => match r[i]? with
  | some (.ownD _ _) => (match mk r with
    | .ok y r1 => (match md r1 with
      | .ok z r2 => (match r2[i]? with
        | some (.ownD t es) => (match lookT t es y with
          | some o => .ok (o.getD z) r2
          | none => .bad)
        | _ => .bad)
      | .exc c fs => .exc c fs
      | .bad => .bad)
    | .exc c fs => .exc c fs
    | .bad => .bad)
  | _ => .bad
theorem e_dgetO {i : Nat} {x : Str} {e f : Expr} {mk md : ME} {p apos cpos : Pos} (hu : X.A.units + 1 < cLine) (he : PE X e (tE C E mk)) (hf : PE X f (tE C E md)) (hN : X.N[i]? = some x := by rfl) (hv : Vis X.env.scope x := by first | exact Or.inl rfl | exact Or.inr (Or.inl rfl) | exact Or.inr (Or.inr rfl))
    (hd : (x == ("__debug__" : Str)) = false := by decide) (hcd : (x == ("__classdict__" : Str)) = false := by decide) (m2 : M2 X (.Name x p) "get" apos e f cpos := by exact ⟨rfl, rfl, rfl, rfl⟩) :
    PE X (.Call (.Attribute (.Name x p) "get" apos) [e, f] [] cpos) (tE C E (mDGetO i mk md)) := by
  refine PE.imp (pe_dget2 hu (pe_var hN hv hd hcd) he hf m2) fun σ H Q ⟨r, ad, G, s, k⟩ => ?_
  unfold mDGetO at k
  split at k
  · rename_i t0 es0 e0
    obtain ⟨z1, _, _, z4⟩ := s.ownD i t0 es0 e0
    refine ⟨_, z1, _, rfl, z4.rd.isD, r, ad, G, s, ?_⟩
    unfold kE at k ⊢
    cases em : mk r with
    | bad => simp only [em] at k
    | exc c fs => simp only [em] at k; exact k
    | ok y r1 =>
      simp only [em] at k
      intro vy G1 H1 s1 k1 p1
      refine ⟨r1, ad, G1, s1, ?_⟩
      unfold kE
      cases ed : md r1 with
      | bad => simp only [ed] at k
      | exc c fs => simp only [ed] at k; exact k
      | ok z r2 =>
        simp only [ed] at k
        intro vz G2 H2 s2 k2 p2
        cases er : r2[i]? with
        | none => simp only [er] at k
        | some q =>
          simp only [er] at k
          cases q with
          | ownD t es =>
            simp only at k
            cases el : lookT t es y with
            | none => simp only [el] at k
            | some od =>
              simp only [el] at k
              obtain ⟨y1, y2, y3, y4⟩ := s2.ownD i t es er
              obtain ⟨o', g1, g2⟩ := dgetX s2.hst.sub y4.rd (p1.up k2.g) el
              refine ⟨o', g1, ?_⟩
              rcases g2 with ⟨rfl, rfl⟩ | ⟨w, x, rfl, rfl, q⟩
              · exact k _ G2 H2 s2 (k1.trans k2) p2
              · exact k _ G2 H2 s2 (k1.trans k2) q
          | _ => exact k.elim
  · exact k.elim
/-- e in x, e not in x -/
def mDInO (b : Bool) (i : Nat) (mk : ME) : ME := fun r => match mk r with
  | .ok y r1 => (match r1[i]? with
    | some (.ownD t es) => (match lookT t es y with
      | some o => .ok (.bl (o.isSome == b)) r1
      | none => .bad)
    | _ => .bad)
  | .exc c fs => .exc c fs
  | .bad => .bad
theorem tE_dinO {b : Bool} {i : Nat} {mk : ME} {σ : L2.St} {H : Hp} {Q : VK} (h : tE C E (mDInO b i mk) σ H Q) : tE C E mk σ H (fun y H1 => tVar i σ H1 fun x H2 => ∃ a o, x = .ref a ∧ DGet H2 a y o ∧ Q (.bl (o.isSome == b)) H2) := by
  obtain ⟨r, ad, G, s, k⟩ := h
  refine ⟨r, ad, G, s, ?_⟩
  unfold mDInO at k
  unfold kE at k ⊢
  cases em : mk r with
  | bad => simp only [em] at k
  | exc c fs => simp only [em] at k; exact k
  | ok y r1 =>
    simp only [em] at k
    intro vy G1 H1 s1 k1 p1
    cases er : r1[i]? with
    | none => simp only [er] at k
    | some q =>
      simp only [er] at k
      cases q with
      | ownD t es =>
        simp only at k
        cases el : lookT t es y with
        | none => simp only [el] at k
        | some od =>
          simp only [el] at k
          obtain ⟨y1, y2, y3, y4⟩ := s1.ownD i t es er
          obtain ⟨o', g1, g2⟩ := dgetX s1.hst.sub y4.rd p1 el
          exact ⟨_, y1, _, o', rfl, g1, k _ G1 H1 s1 k1 (by rw [optR_some g2]; exact .bl _)⟩
      | _ => exact k.elim
theorem e_dinO {i : Nat} {x : Str} {e : Expr} {mk : ME} {p : Pos} (hu : X.A.units + 1 < cLine) (he : PE X e (tE C E mk)) (hN : X.N[i]? = some x := by rfl) (hv : Vis X.env.scope x := by first | exact Or.inl rfl | exact Or.inr (Or.inl rfl) | exact Or.inr (Or.inr rfl))
    (hd : (x == ("__debug__" : Str)) = false := by decide) (hcd : (x == ("__classdict__" : Str)) = false := by decide) (hm : behindInMarks .In (.Name x p) = false := by first | exact nomark _ | rfl) : PE X (.Compare e [.In] [.Name x p] pos) (tE C E (mDInO true i mk)) := by
  refine PE.imp (pe_cmpR (op_dinD hu) he (pe_var hN hv hd hcd) hm) fun σ H Q h => ?_
  refine tE_mono (fun y H1 q => ?_) (tE_dinO h)
  obtain ⟨v, hv, a, o, e1, g, q⟩ := q
  exact ⟨v, hv, a, o, e1, g, by simpa using q⟩
theorem e_dnotInO {i : Nat} {x : Str} {e : Expr} {mk : ME} {p : Pos} (hu : X.A.units + 1 < cLine) (he : PE X e (tE C E mk)) (hN : X.N[i]? = some x := by rfl) (hv : Vis X.env.scope x := by first | exact Or.inl rfl | exact Or.inr (Or.inl rfl) | exact Or.inr (Or.inr rfl))
    (hd : (x == ("__debug__" : Str)) = false := by decide) (hcd : (x == ("__classdict__" : Str)) = false := by decide) (hm : behindInMarks .NotIn (.Name x p) = false := by first | exact nomark _ | rfl) : PE X (.Compare e [.NotIn] [.Name x p] pos) (tE C E (mDInO false i mk)) := by
  refine PE.imp (pe_cmpR (op_dnotInD hu) he (pe_var hN hv hd hcd) hm) fun σ H Q h => ?_
  refine tE_mono (fun y H1 q => ?_) (tE_dinO h)
  obtain ⟨v, hv, a, o, e1, g, q⟩ := q
  exact ⟨v, hv, a, o, e1, g, by simpa using q⟩
end
end DL

/-! Dicts made as data; while. -/
namespace DL
open PySem PySem.Spec PyProof.Rows L2 LamX
/-- a new thing at p, which lies still from now on -/
def LQ (Q : VK) : VK := fun v H' => ∃ p u H1, v = .ref p ∧ H' = upd H1 p u ∧ Mut (some u) ∧ ∀ od, Q (.ref p) (upd H1 p (.frz od u))
section
variable {X : Cx} {C : Fc} {E : XK} {pos : Pos}
theorem e_lock {e : Expr} {t : TE} {m : ME} (h : PE X e t) (hk : ∀ σ H Q, tE C E m σ H Q → t σ H (LQ Q)) : PE X e (tE C E m) := by
  refine ⟨fun pins s σ H Q I q => ?_⟩
  refine wpAny_mono (h.run pins s σ H (LQ Q) I (hk σ H Q q)) (fun u s' hq => ?_) fun _ _ z => z
  obtain ⟨v, H', I', rv, p, ob, H1, rfl, rfl, mu, q⟩ := hq
  obtain ⟨od, I1⟩ := I'.lock (d := p) (u := ob) upd_same mu
  rw [upd_twice] at I1
  exact ⟨.ref p, _, I1, rv, q od⟩
/-! ### dict(pairs) -/
def pairK (d : D) : Option (Key × D) := match d with
  | .tup l => (match l with
    | [k, v] => (kD k).map fun kk => (kk, v)
    | _ => none)
  | _ => none
theorem pairK_some {d : D} {q : Key × D} (h : pairK d = some q) : ∃ k, d = .tup [k, q.2] ∧ kD k = some q.1 := by
  cases d <;> first | (cases h; done) | skip
  rename_i l
  unfold pairK at h
  simp only at h
  split at h
  · rename_i k v
    cases ek : kD k with
    | none => rw [ek] at h; cases h
    | some kk => rw [ek] at h; cases h; exact ⟨k, rfl, ek⟩
  · cases h
def pairsK : List D → Option (List (Key × D))
  | [] => some []
  | d :: l => match pairK d, pairsK l with
    | some q, some r => some (q :: r)
    | _, _ => none
def mergeD (es : List (D × D)) (ps : List (Key × D)) : List (D × D) := ps.foldl (fun acc kv => dPut (isKK kv.1) (keyD kv.1) acc kv.2) es
def gDictOf (d : D) : Option D := match d with
  | .lst l => (pairsK l).map fun ps => .dct false (mergeD [] ps)
  | _ => none
theorem pairsK_rp {K : PySem.W.Frag} {G H : Hp} (sub : Same G H) : ∀ {l : List D} {vs : List V} {ps : List (Key × D)}, RpL K G vs l → pairsK l = some ps → ∃ as kvs, vs = as.map V.ref ∧ Paired (fun p (kv : Key × V) => SqT K H p [kV kv.1, kv.2]) as kvs ∧ Paired (fun (kv : Key × V) (q : Key × D) => kv.1 = q.1 ∧ Rp K G kv.2 q.2) kvs ps
  | [], _, _, h, e => by cases h; cases e; exact ⟨[], [], rfl, .nil, .nil⟩
  | d :: l, _, ps, h, e => by
    cases h with
    | cons h1 h2 =>
      unfold pairsK at e
      split at e
      · rename_i q r eq er
        cases e
        obtain ⟨kd, rfl, ek⟩ := pairK_some eq
        cases h1 with
        | tup hs hp =>
          cases hp with
          | cons hk hp =>
            cases hp with
            | cons hv hp =>
              cases hp
              obtain ⟨rfl, _⟩ := kD_rp ek hk
              obtain ⟨as, kvs, rfl, a1, a2⟩ := pairsK_rp sub h2 er
              exact ⟨_ :: as, (q.1, _) :: kvs, rfl, .cons (SqT.of (sub _ _ hs)) a1, .cons ⟨rfl, hv⟩ a2⟩
      · cases e
theorem mergeD_rp {K : PySem.W.Frag} {G : Hp} : ∀ {kvs : List (Key × V)} {ps : List (Key × D)} {acc : List (Key × V)} {es : List (D × D)}, Paired (fun (kv : Key × V) (q : Key × D) => kv.1 = q.1 ∧ Rp K G kv.2 q.2) kvs ps → RpK K G acc es → RpK K G (mergeK acc kvs) (mergeD es ps)
  | _, _, _, _, .nil, h => h
  | _, _, acc, es, .cons (a := a) (b := b) h t, r => by
    obtain ⟨e, p⟩ := h
    show RpK K G (mergeK (putK acc a.1 a.2) _) (mergeD (dPut (isKK b.1) (keyD b.1) es b.2) _)
    rw [e]
    exact mergeD_rp t (put_K p r)
theorem e_dictOf {e : Expr} {a : MA} {p : Pos} (hm : X.mg "dict" = none) (ha : PA X [e] (tA C E a)) (hK : C.K = X.K := by rfl) (hc : X.calm = true := by rfl) (hgl : Gl X "dict" := by rfl)
    (he : starEach [e] X.env = (false, eval e X.env) :: starEach [] X.env := by rfl) (hpl : (backTo pos (starEach [] X.env)).any (·.1) = false := by rfl) :
    PE X (.Call (.Name "dict" p) [e] [] pos) (tE C E (mAgs (b1 gDictOf) a)) := by
  refine e_lock (pe_callTy (call_dictP hc) hgl hm (by decide +kernel) ha (by decide) (by decide) he hpl) fun σ H Q ⟨r, ad, G, s, k⟩ => ⟨r, ad, G, s, ?_⟩
  unfold mAgs at k
  unfold kE at k
  unfold kA
  cases ea : a r with
  | bad => simp only [ea] at k
  | exc c fs => simp only [ea] at k; exact k
  | ok ds r1 =>
    simp only [ea] at k
    intro vs G1 H1 s1 k1 p1
    cases eg : b1 gDictOf ds with
    | none => rw [eg] at k; exact k.elim
    | some d =>
      rw [eg] at k
      cases p1 with
      | nil => cases eg
      | cons pv pt =>
        cases pt with
        | cons _ _ => cases eg
        | nil =>
          rw [ev_b1] at eg
          unfold gDictOf at eg
          split at eg <;> first | (cases eg; done) | skip
          rename_i l
          cases ep : pairsK l with
          | none => rw [ep] at eg; cases eg
          | some ps =>
            rw [ep] at eg
            cases eg
            cases pv with
            | lst hs hp =>
              obtain ⟨as, kvs, rfl, a1, a2⟩ := pairsK_rp s1.hst.sub hp ep
              refine ⟨_, as, kvs, rfl, by rw [← hK]; exact SqL.of (s1.hst.sub _ _ hs), by rw [← hK]; exact a1, fun q hq => ⟨q, _, H1, rfl, rfl, trivial, fun od => ?_⟩⟩
              have lay := Grow.lay (o := .frz od (.dK (mergeK [] kvs))) s1.hst.sub s1.hst.gnt hq (fun ps z => by cases z)
              exact k _ _ _ (s1.grow lay) (k1.trans (Kp.grow lay)) (.dK upd_same (RpK.mono lay.g _ _ (mergeD_rp a2 .nil)))
/-! ### {k: v for ..} -/
def dcL (g : GD) (c ek ev : ME) (vs : List Nat) : List D → DEnv → List (D × D) → Option (List (D × D) × DEnv)
  | [], r, es => some (es, r)
  | d :: l, r, es => match g d r with
    | none => none
    | some r1 => match c r1 with
      | .ok (.bl true) r2 => (match ek r2 with
        | .ok y r3 => (match ev r3 with
          | .ok z r4 => (match kD y with
            | some kk => if es.length < 16777216 then dcL g c ek ev vs l (wipeR r4 vs) (dPut (isKK kk) (keyD kk) es z) else none
            | none => none)
          | _ => none)
        | _ => none)
      | .ok (.bl false) r2 => dcL g c ek ev vs l (wipeR r2 vs) es
      | _ => none
def mDc (it : MA) (g : GD) (c ek ev : ME) (vs : List Nat) : ME := fun r => match it r with
  | .ok l r1 => (match dcL g c ek ev vs l (wipeR r1 vs) [] with
    | some (es, r2) => .ok (.dct false es) r2
    | none => .bad)
  | .exc x fs => .exc x fs
  | .bad => .bad
theorem wipe_twice {σ : L2.St} {vs : List Nat} : L2.wipe (L2.wipe σ vs) vs = L2.wipe σ vs := by
  apply List.ext_getElem?
  intro j
  by_cases hj : j ∈ vs
  · have hl : ∀ τ : L2.St, (L2.wipe τ vs)[j]? = if j < τ.length then some none else none := by
      intro τ
      have : ∀ (ws : List Nat), j ∈ ws → (L2.wipe τ ws)[j]? = if j < τ.length then some none else none := by
        intro ws
        induction ws with
        | nil => intro h; cases h
        | cons w ws ih =>
          intro h
          unfold L2.wipe
          rw [List.getElem?_set]
          by_cases hw : w = j
          · rw [if_pos hw, wipe_length, hw]
          · rw [if_neg hw]
            rcases List.mem_cons.mp h with z | z
            · exact absurd z.symm hw
            · exact ih z
      exact this vs hj
    rw [hl, hl, wipe_length]
  · rw [wipe_out hj]
theorem Stt.away {r : DEnv} {ad : Nat → Addr} {σ : L2.St} {G H : Hp} {p : Addr} {o o' : HO} (s : Stt C r ad σ G H) (g : G p = none) (h0 : C.H0 p = none) (h1 : H p = some o) (hw : wr (some o)) (hn : ∀ a, o ≠ .own a) (nt : ∀ c q, o ≠ LamX.CodeO c q) (np : ∀ j, isOwn r j → ad j ≠ p) : Stt C r ad σ G (upd H p o') := by
  have ntb : ∀ ps, o ≠ .tbl ps := fun ps z => by rw [z] at hw; exact hw
  refine ⟨s.hst.put g (.inl h0) (ne_of_some h1) (fun ps z => by rw [h1] at z; exact ntb ps (Option.some.inj z)) (fun c q z => by rw [h1] at z; exact nt c q (Option.some.inj z)), s.len, s.dat, fun j k l e => ?_, fun j t l e => ?_, fun j c l e => ?_, s.inj⟩
  · obtain ⟨a1, a2, a3, ys, a4, a5⟩ := s.own j k l e
    exact ⟨a1, a2, a3, ys, by rw [upd_ne (np j (.inl ⟨k, l, e⟩))]; exact a4, a5⟩
  · obtain ⟨a1, a2, a3, a4⟩ := s.ownD j t l e
    exact ⟨a1, a2, a3, a4.up (Same.refl _) (upd_ne (np j (.inr (.inl ⟨t, l, e⟩))))⟩
  · obtain ⟨a1, a2, a3, a4⟩ := s.ownI j c l e
    refine ⟨a1, a2, a3, a4.up (Same.refl _) (fun b u q y => ?_) fun _ _ q => q⟩
    rw [upd_ne]
    · exact q
    · rcases y with y | y
      · rw [y]; exact np j (.inr (.inr ⟨c, l, e⟩))
      · intro y'; rw [y', h1, y] at q; exact hn _ (Option.some.inj q)
theorem e_dc {kx vx tg iter : Expr} {ifs : List Expr} {scope : Scope} {own : List (Str × Nat)} {it : MA} {g : GD} {mc mk mv : ME} (hN : X.N.Nodup) (hi : PI X tg iter (tI C E it)) (ok : BlkOk X.N X.env.scope scope own)
    (hg : ∀ (s : Shared) (H : Hp) (A : Addr) (cl : List (Str × Addr)) (fp : List Addr), GOk (own.map (·.2)) (X.blk s H scope (compEnvC scope cl A X.env) fp) C tg g)
    (ht : ∀ (s : Shared) (H : Hp) (A : Addr) (cl : List (Str × Addr)) (fp : List Addr), PTs (X.blk s H scope (compEnvC scope cl A X.env) fp) ifs (tT C E0 mc))
    (hk : ∀ (s : Shared) (H : Hp) (A : Addr) (cl : List (Str × Addr)) (fp : List Addr), PE (X.blk s H scope (compEnvC scope cl A X.env) fp) kx (tE C E0 mk))
    (he : ∀ (s : Shared) (H : Hp) (A : Addr) (cl : List (Str × Addr)) (fp : List Addr), PE (X.blk s H scope (compEnvC scope cl A X.env) fp) vx (tE C E0 mv))
    (hc : X.calm = true := by rfl) (hs : ∀ x, foldedSetIterable iter X.env x = pure x := by intro _; rfl) :
    PE X (.DictComp kx vx [⟨tg, iter, ifs, 0⟩] scope pos) (tE C E (mDc it g mc mk mv (own.map (·.2)))) := by
  refine e_lock (pe_dc hc hN hi ok (fun s H A cl fp => (hg s H A cl fp).run) ht hk he hs) fun σ H Q ⟨r, ad, G, s, k⟩ => ⟨r, ad, G, s, ?_⟩
  generalize own.map (·.2) = vs at k ⊢
  unfold mDc at k
  unfold kE at k
  unfold kI
  cases e : it r with
  | bad => simp only [e] at k
  | exc c fs => simp only [e] at k; exact k
  | ok l r1 =>
    simp only [e] at k
    intro J G1 H1 s1 k1 w D0 hD
    have nD : H D0 = none := by
      cases q : H D0 with
      | none => rfl
      | some o => exact absurd hD (k1.dom D0 (by rw [q]; simp))
    cases el : dcL g mc mk mv vs l (wipeR r1 vs) [] with
    | none => simp only [el] at k
    | some z =>
      obtain ⟨em, rz⟩ := z
      simp only [el] at k
      let Pv : Nat → Hp → Prop := fun i H2 => ∃ r2 G2 acc es, Stt C r2 ad (L2.wipe σ vs) G2 H2 ∧ Kp C r r2 ad G H G2 H2 ∧ Same G1 G2 ∧ H2 D0 = some (.dK acc) ∧ G2 D0 = none ∧ RpK C.K G2 acc es ∧ dcL g mc mk mv vs (l.drop i) r2 es = some (em, rz)
      have dw : ∀ {acc : List (Key × V)} {H2 : Hp}, H2 D0 = some (.dK acc) → wr (H2 D0) := fun q => by rw [q]; trivial
      refine ⟨fun i m H2 => m = l.length - i ∧ i ≤ l.length ∧ Pv i H2, ⟨l.length, by simp, Nat.zero_le _, ?_⟩, ?_⟩
      · have gr : Grow G1 H1 G1 (upd H1 D0 (.dK [])) := Grow.layH s1.hst.sub s1.hst.gnt hD
        have s3 := (s1.grow gr).wipe (σ' := L2.wipe σ vs) (vs := vs) (wipe_length _ _) (fun i n => wipe_out n)
        exact ⟨_, G1, [], [], s3, (k1.trans (Kp.grow gr)).trans ⟨Same.refl _, fun j h => (own_wipe h).2, fun _ z => z, fun _ z => z, fun _ _ z _ _ => z, fun _ _ z _ => z⟩, Same.refl _, upd_same, s1.hst.sub.free hD, .nil, el⟩
      · rintro i m H2 ⟨rfl, hil, r2, G2, acc, es, s2, k2, g2, hD2, hG2, p2, el2⟩
        have nown : ∀ j, isOwn r2 j → D0 ≠ ad j := fun j h z => s.own_ne (k2.o j h) (by rw [← z]; exact nD)
        have ntab : ∀ p ∈ C.T, D0 ≠ p.1 := fun p hp z => by
          obtain ⟨ps, e1, _⟩ := s.hst.tabs p hp
          rw [← z, nD] at e1
          cases e1
        have h0 : C.H0 D0 = none := new_H0 s nD
        by_cases hi' : i < l.length
        rotate_left
        · have ei : i = l.length := by omega
          subst ei
          refine .inl ⟨w.w.stops _ (g2.trans s2.hst.sub), ?_⟩
          rw [List.drop_length] at el2
          unfold dcL at el2
          cases el2
          have s3 : Stt C rz ad σ G2 H2 := by
            refine ⟨s2.hst, ?_, fun j d e' => ?_, fun j kk l' e' => ?_, fun j t l' e' => ?_, fun j cc l' e' => ?_, s2.inj⟩
            · rw [← s2.len, wipe_length]
            · obtain ⟨v, h1, h2⟩ := s2.dat j d e'
              exact ⟨v, (wipe_some h1).1, h2⟩
            · obtain ⟨h1, h2⟩ := s2.own j kk l' e'
              exact ⟨(wipe_some h1).1, h2⟩
            · obtain ⟨h1, h2⟩ := s2.ownD j t l' e'
              exact ⟨(wipe_some h1).1, h2⟩
            · obtain ⟨h1, h2⟩ := s2.ownI j cc l' e'
              exact ⟨(wipe_some h1).1, h2⟩
          refine ⟨D0, .dK acc, H2, rfl, ?_, trivial, fun od => ?_⟩
          · funext b
            unfold upd
            split
            · rename_i hb; rw [hb, hD2]
            · rfl
          · have np : ∀ j, isOwn rz j → ad j ≠ D0 := fun j hj z => nown j hj z.symm
            have s4 := s3.away (o' := .frz od (.dK acc)) hG2 h0 hD2 trivial (fun _ z => nomatch z) (fun _ _ z => by cases z) np
            have s5 := s4.still (o := .frz od (.dK acc)) hG2 h0 upd_same (fun _ z => nomatch z) np
            have sg : Same G2 (upd G2 D0 (.frz od (.dK acc))) := same_upd hG2
            refine k (.ref D0) _ _ s5 ?_ (.dK upd_same (RpK.mono sg _ _ p2))
            refine ⟨k2.g.trans sg, k2.o, fun b z => ?_, fun b z => ?_, fun b u z n t => ?_, fun b z y n => ?_⟩
            · by_cases hb : b = D0
              · rw [hb, upd_same]; simp
              · rw [upd_ne hb]; exact k2.dom b z
            · have hb : b ≠ D0 := fun hb => by rw [hb, nD] at z; exact z
              rw [upd_ne hb]; exact k2.domN b z
            · rw [upd_ne (ne_of_none z nD)]; exact k2.keep b u z n t
            · have hb : b ≠ D0 := fun hb => by rw [hb, nD] at z; exact z
              rw [upd_ne hb]; exact k2.nofz b z y n
        · refine .inr ⟨w.w.goes i H2 hi' (g2.trans s2.hst.sub), Pv (i + 1), fun H' p' => ⟨l.length - (i + 1), by omega, rfl, hi', p'⟩, fun x H3 y => ?_⟩
          obtain ⟨G3, gr, d, ed, pd⟩ := w.w.yields i H2 x H3 hi' (g2.trans s2.hst.sub) y G2 g2 s2.hst.sub s2.hst.gnt
          have s3 := s2.grow gr
          have hD3 : H3 D0 = some (.dK acc) := gr.h _ _ hD2
          have hG3 : G3 D0 = none := gr.nofz D0 (dw hD2) hG2
          have dr : l.drop i = d :: l.drop (i + 1) := by
            rw [List.drop_eq_getElem_cons hi']
            congr 1
            have := List.getElem?_eq_getElem hi'
            rw [this] at ed
            exact Option.some.inj ed
          rw [dr] at el2
          unfold dcL at el2
          cases eg : g d r2 with
          | none => simp only [eg] at el2; cases el2
          | some r4 =>
            simp only [eg] at el2
            refine ⟨r2, ad, G3, d, s3, pd, r4, eg, fun σ4 G4 H4 w4 s4 k4 => ⟨w4.trans wipe_twice, ?_⟩⟩
            have k34 : Kp C r r4 ad G H G4 H4 := (k2.trans (Kp.grow gr)).trans k4
            have hD4 : H4 D0 = some (.dK acc) := k4.keep D0 _ hD3 nown ntab
            have hG4 : G4 D0 = none := k4.nofz D0 (dw hD3) hG3 nown
            have wlen : σ4.length = (L2.wipe σ vs).length := by rw [wipe_eq_len w4]
            have wout : ∀ j, j ∉ vs → (L2.wipe σ vs)[j]? = σ4[j]? := fun j n => (wipe_eq_out w4 n).symm
            refine ⟨r4, ad, G4, s4, ?_⟩
            unfold kT
            cases ec : mc r4 with
            | bad => simp only [ec] at el2; cases el2
            | exc x fs => simp only [ec] at el2; cases el2
            | ok bb r5 =>
              simp only [ec] at el2
              cases bb with
              | bl b =>
                refine ⟨b, rfl, fun G5 H5 s5 k5 => ?_⟩
                have nown4 : ∀ j, isOwn r4 j → D0 ≠ ad j := fun j h => nown j (k4.o j h)
                have hD5 : H5 D0 = some (.dK acc) := k5.keep D0 _ hD4 nown4 ntab
                have hG5 : G5 D0 = none := k5.nofz D0 (dw hD4) hG4 nown4
                have k45 := k34.trans k5
                cases b with
                | false =>
                  simp only at el2
                  exact iteF ⟨wipeR r5 vs, G5, acc, es, s5.wipe wlen.symm wout, k45.trans ⟨Same.refl _, fun j h => (own_wipe h).2, fun _ z => z, fun _ z => z, fun _ _ z _ _ => z, fun _ _ z _ => z⟩, (g2.trans gr.g).trans (k4.g.trans k5.g), hD5, hG5, RpK.mono (gr.g.trans (k4.g.trans k5.g)) _ _ p2, el2⟩
                | true =>
                  simp only at el2
                  refine iteT ⟨r5, ad, G5, s5, ?_⟩
                  unfold kE
                  have nown5 : ∀ j, isOwn r5 j → D0 ≠ ad j := fun j h => nown4 j (k5.o j h)
                  cases ek : mk r5 with
                  | bad => simp only [ek] at el2; cases el2
                  | exc x fs => simp only [ek] at el2; cases el2
                  | ok yv r6 =>
                    simp only [ek] at el2
                    intro v6 G6 H6 s6 k6 p6
                    have hD6 : H6 D0 = some (.dK acc) := k6.keep D0 _ hD5 nown5 ntab
                    have hG6 : G6 D0 = none := k6.nofz D0 (dw hD5) hG5 nown5
                    have nown6 : ∀ j, isOwn r6 j → D0 ≠ ad j := fun j h => nown5 j (k6.o j h)
                    refine ⟨r6, ad, G6, s6, ?_⟩
                    unfold kE
                    cases ev : mv r6 with
                    | bad => simp only [ev] at el2; cases el2
                    | exc x fs => simp only [ev] at el2; cases el2
                    | ok zv r7 =>
                      simp only [ev] at el2
                      intro v7 G7 H7 s7 k7 p7
                      have hD7 : H7 D0 = some (.dK acc) := k7.keep D0 _ hD6 nown6 ntab
                      have hG7 : G7 D0 = none := k7.nofz D0 (dw hD6) hG6 nown6
                      have nown7 : ∀ j, isOwn r7 j → D0 ≠ ad j := fun j h => nown6 j (k7.o j h)
                      cases ekd : kD yv with
                      | none => simp only [ekd] at el2; cases el2
                      | some kk =>
                        simp only [ekd] at el2
                        split at el2
                        · rename_i hlen
                          obtain ⟨rfl, _⟩ := kD_rp ekd p6
                          have p7' : RpK C.K G7 acc es := RpK.mono (gr.g.trans (k4.g.trans (k5.g.trans (k6.g.trans k7.g)))) _ _ p2
                          have k77 := (k45.trans k6).trans k7
                          refine ⟨acc, kk, rfl, hD7, by rw [p7'.length, sizeLine_eq]; exact hlen, wipeR r7 vs, G7, putK acc kk v7, dPut (isKK kk) (keyD kk) es zv, ?_, ?_, (g2.trans gr.g).trans (k4.g.trans (k5.g.trans (k6.g.trans k7.g))), upd_same, hG7, put_K p7 p7', el2⟩
                          · have z := s7.wipe (σ' := L2.wipe σ vs) (vs := vs) wlen.symm wout
                            exact z.away hG7 h0 hD7 trivial (fun _ z => nomatch z) (fun _ _ z => by cases z) fun j h y => nown7 j (own_wipe h).2 y.symm
                          · refine ⟨k77.g, fun j h => k77.o j (own_wipe h).2, fun b z => ?_, fun b z => ?_, fun b u z n t => ?_, k77.nofz⟩
                            · by_cases hb : b = D0
                              · rw [hb, upd_same]; simp
                              · rw [upd_ne hb]; exact k77.dom b z
                            · by_cases hb : b = D0
                              · rw [hb, upd_same]; trivial
                              · rw [upd_ne hb]; exact k77.domN b z
                            · rw [upd_ne (ne_of_none z nD)]
                              exact k77.keep b u z n t
                        · cases el2
              | _ => simp only at el2; cases el2
/-! ### while -/
def whileN (c : ME) (b : MS) : Nat → DEnv → SR
  | 0, _ => .bad
  | n + 1, r => match c r with
    | .ok (.bl true) r1 => (match b r1 with
      | .nx r2 => whileN c b n r2
      | .ct r2 => whileN c b n r2
      | .bk r2 => .nx r2
      | x => x)
    | .ok (.bl false) r1 => .nx r1
    | .exc c fs => .exc c fs
    | _ => .bad
def sWhile (n : Nat) (c : ME) (b : MS) : MS := fun r => whileN c b n r
theorem s_while {n : Nat} {c : Expr} {body : List Stmt} {mc : ME} {mb : MS} (hp : PassesOwn (model X.prog X.w) X.A X.env X.xe) (hc : PT X c (tT C E mc)) (hb : PSs X body (tS C E mb)) : PS X (.While c body [] pos) (tS C E (sWhile n mc mb)) := by
  refine PS.imp (ps_while hp hc hb) fun Dn σ H ⟨r, ad, G, s, k⟩ => ?_
  refine ⟨fun m σ H => ∃ r ad G1, Stt C r ad σ G1 H ∧ Same G G1 ∧ kS C E (whileN mc mb m r) G1 Dn, ⟨n, r, ad, G, s, Same.refl _, k⟩, ?_⟩
  rintro m σ1 H1 ⟨r1, ad1, G1, s1, g1, k1⟩
  cases m with
  | zero => exact k1.elim
  | succ m =>
    refine ⟨r1, ad1, G1, s1, ?_⟩
    unfold whileN at k1
    unfold kT
    cases ec : mc r1 with
    | bad => simp only [ec] at k1; exact k1
    | exc c fs => simp only [ec] at k1; exact k1
    | ok d r2 =>
      simp only [ec] at k1
      cases d with
      | bl b =>
        refine ⟨b, rfl, fun G2 H2 s2 k2 => ?_⟩
        cases b with
        | false =>
          refine iteF ?_
          exact k1 ad1 σ1 G2 H2 s2 k2.g
        | true =>
          refine iteT ?_
          simp only at k1
          refine ⟨fun σ' H' => ∃ r ad G3, Stt C r ad σ' G3 H' ∧ Same G G3 ∧ kS C E (whileN mc mb m r) G3 Dn, fun σ' H' q => ⟨m, Nat.lt_succ_self m, q⟩, r2, ad1, G2, s2, ?_⟩
          cases eb : mb r2 with
          | nx r3 =>
            simp only [eb] at k1
            exact fun ad' σ' G' H' s' g' => ⟨r3, ad', G', s', (g1.trans k2.g).trans g', kS_up k1 (k2.g.trans g')⟩
          | ct r3 =>
            simp only [eb] at k1
            exact fun ad' σ' G' H' s' g' => ⟨r3, ad', G', s', (g1.trans k2.g).trans g', kS_up k1 (k2.g.trans g')⟩
          | bk r3 =>
            simp only [eb] at k1
            exact fun ad' σ' G' H' s' g' => k1 ad' σ' G' H' s' (k2.g.trans g')
          | rt d r3 => simp only [eb] at k1; exact k1
          | rtO l r3 => simp only [eb] at k1; exact k1
          | exc c fs => simp only [eb] at k1; exact k1
          | bad => simp only [eb] at k1; exact k1
      | _ => exact k1.elim
end
end DL

/-! Several targets at once, some of them lists held alone; insert, extend; appending to what a call gives. -/
namespace DL
open PySem PySem.Spec PyProof.Rows L2 LamX
inductive AV where
  | d (x : D)
  | o (l : List D)
  | m (t : Bool)
inductive VR where
  | ok (as : List AV) (r : DEnv)
  | exc (c : Str) (fs : List (Str × D))
  | bad
abbrev MV := DEnv → VR
def AV.sl : AV → Sl
  | .d x => .dat x
  | .o l => .own false l
  | .m t => .ownD t []
/-- a new list, a new dict -/
def OwnAV (K : PySem.W.Frag) (G H' : Hp) (p : Addr) (a : AV) : Prop := (∃ l xs, a = .o l ∧ H' p = some (.lst xs) ∧ RpL K G xs l) ∨ ∃ t, a = .m t ∧ DictAt K G H' p t []
theorem OwnAV.ne {K : PySem.W.Frag} {G H' : Hp} {p : Addr} {a : AV} (h : OwnAV K G H' p a) : H' p ≠ none := by
  rcases h with ⟨l, xs, _, h, _⟩ | ⟨t, _, h⟩
  · rw [h]; simp
  · exact h.ne
theorem OwnAV.wr {K : PySem.W.Frag} {G H' : Hp} {p : Addr} {a : AV} (h : OwnAV K G H' p a) : DL.wr (H' p) := by
  rcases h with ⟨l, xs, _, h, _⟩ | ⟨t, _, h⟩
  · exact wr_lst h
  · exact h.wr
theorem OwnAV.up {K : PySem.W.Frag} {G H' G2 H2 : Hp} {p : Addr} {a : AV} (h : OwnAV K G H' p a) (e : Same G G2) (q : H2 p = H' p) : OwnAV K G2 H2 p a := by
  rcases h with ⟨l, xs, e1, h, h2⟩ | ⟨t, e1, h⟩
  · exact .inl ⟨l, xs, e1, q.trans h, h2.up e⟩
  · exact .inr ⟨t, e1, h.up e q⟩
inductive RpA (K : PySem.W.Frag) (G H' H : Hp) : List V → List AV → List Addr → Prop
  | nil : RpA K G H' H [] [] []
  | d {v : V} {x : D} {vs : List V} {as : List AV} {ps : List Addr} : Rp K G v x → RpA K G H' H vs as ps → RpA K G H' H (v :: vs) (.d x :: as) ps
  | w {p : Addr} {a : AV} {vs : List V} {as : List AV} {ps : List Addr} : H p = none → G p = none → OwnAV K G H' p a → p ∉ ps → RpA K G H' H vs as ps → RpA K G H' H (.ref p :: vs) (a :: as) (p :: ps)
theorem RpA.mem {K : PySem.W.Frag} {G H' H : Hp} : ∀ {vs : List V} {as : List AV} {ps : List Addr} {p : Addr}, RpA K G H' H vs as ps → p ∈ ps → H p = none
  | _, _, _, _, .nil, h => by cases h
  | _, _, _, _, .d _ r, h => r.mem h
  | _, _, _, _, .w e _ _ _ r, h => by
    rcases List.mem_cons.mp h with rfl | h
    · exact e
    · exact r.mem h
theorem RpA.dom {K : PySem.W.Frag} {G H' H H1 : Hp} (d : ∀ b, H b ≠ none → H1 b ≠ none) : ∀ {vs : List V} {as : List AV} {ps : List Addr}, RpA K G H' H1 vs as ps → RpA K G H' H vs as ps
  | _, _, _, .nil => .nil
  | _, _, _, .d p r => .d p (r.dom d)
  | _, _, _, .w e a b n r => .w (by
      rename_i p x vs as ps
      cases q : H p with
      | none => rfl
      | some o => exact absurd e (d p (by rw [q]; simp))) a b n (r.dom d)
/-- a new thing laid besides -/
theorem RpA.lay {K : PySem.W.Frag} {G H' H : Hp} {q : Addr} {o : HO} (n : H' q = none) : ∀ {vs : List V} {as : List AV} {ps : List Addr}, RpA K G H' H vs as ps → RpA K G (upd H' q o) H vs as ps
  | _, _, _, .nil => .nil
  | _, _, _, .d p r => .d p (r.lay n)
  | _, _, _, .w e a b m r => .w e a (b.up (Same.refl _) (upd_ne fun z => b.ne (by rw [z]; exact n))) m (r.lay n)
theorem RpA.len {K : PySem.W.Frag} {G H' H : Hp} : ∀ {vs : List V} {as : List AV} {ps : List Addr}, RpA K G H' H vs as ps → vs.length = as.length
  | _, _, _, .nil => rfl
  | _, _, _, .d _ r => congrArg (· + 1) r.len
  | _, _, _, .w _ _ _ _ r => congrArg (· + 1) r.len
section
variable {X : Cx} {C : Fc} {E : XK} {pos : Pos}
def kV2 (C : Fc) (E : XK) (x : VR) (r : DEnv) (ad : Nat → Addr) (σ : L2.St) (G H : Hp) (Q : List V → Hp → Prop) : Prop :=
  match x with
  | .ok as r' => ∀ vs ps G' H', Stt C r' ad σ G' H' → Kp C r r' ad G H G' H' → RpA C.K G' H' H vs as ps → Q vs H'
  | .exc c fs => kX C E c fs
  | .bad => False
def tV2 (C : Fc) (E : XK) (m : MV) : TA := fun σ H Q => ∃ r ad G, Stt C r ad σ G H ∧ kV2 C E (m r) r ad σ G H Q
def vNil : MV := fun r => .ok [] r
def vCons (a : ME) (b : MV) : MV := fun r => match a r with
  | .ok x r1 => (match b r1 with
    | .ok l r2 => .ok (.d x :: l) r2
    | .exc c fs => .exc c fs
    | .bad => .bad)
  | .exc c fs => .exc c fs
  | .bad => .bad
def vConsO (a : MA) (b : MV) : MV := fun r => match a r with
  | .ok x r1 => (match b r1 with
    | .ok l r2 => .ok (.o x :: l) r2
    | .exc c fs => .exc c fs
    | .bad => .bad)
  | .exc c fs => .exc c fs
  | .bad => .bad
theorem v_nil : PA X [] (tV2 C E vNil) := PA.imp pa_nil fun σ H Q ⟨r, ad, G, s, k⟩ => k [] [] G H s (Kp.refl _ _ _ _ _) .nil
theorem v_cons {e : Expr} {es : List Expr} {a : ME} {b : MV} (ha : PE X e (tE C E a)) (hb : PA X es (tV2 C E b)) (hs : starEach (e :: es) X.env = (false, eval e X.env) :: starEach es X.env := by rfl) : PA X (e :: es) (tV2 C E (vCons a b)) := by
  refine PA.imp (pa_cons ha hb hs) fun σ H Q ⟨r, ad, G, s, k⟩ => ⟨r, ad, G, s, ?_⟩
  unfold vCons at k
  unfold kV2 at k
  unfold kE
  cases ea : a r with
  | bad => simp only [ea] at k
  | exc c fs => simp only [ea] at k; exact k
  | ok x r1 =>
    simp only [ea] at k
    intro v G1 H1 s1 g1 p1
    refine ⟨r1, ad, G1, s1, ?_⟩
    unfold kV2
    cases eb : b r1 with
    | bad => simp only [eb] at k
    | exc c fs => simp only [eb] at k; exact k
    | ok l r2 =>
      simp only [eb] at k
      intro vs ps G2 H2 s2 g2 p2
      exact k (v :: vs) ps G2 H2 s2 (g1.trans g2) (.d (p1.up g2.g) (p2.dom g1.dom))
theorem v_consO {e : Expr} {es : List Expr} {a : MA} {b : MV} (ha : PE X e (tO C E a)) (hb : PA X es (tV2 C E b)) (hs : starEach (e :: es) X.env = (false, eval e X.env) :: starEach es X.env := by rfl) : PA X (e :: es) (tV2 C E (vConsO a b)) := by
  refine PA.imp (pa_cons ha hb hs) fun σ H Q ⟨r, ad, G, s, k⟩ => ⟨r, ad, G, s, ?_⟩
  unfold vConsO at k
  unfold kV2 at k
  unfold kO
  cases ea : a r with
  | bad => simp only [ea] at k
  | exc c fs => simp only [ea] at k; exact k
  | ok x r1 =>
    simp only [ea] at k
    intro p xs G1 H1 s1 g1 n0 gp hp px
    refine ⟨r1, ad, G1, s1, ?_⟩
    unfold kV2
    cases eb : b r1 with
    | bad => simp only [eb] at k
    | exc c fs => simp only [eb] at k; exact k
    | ok l r2 =>
      simp only [eb] at k
      intro vs ps G2 H2 s2 g2 p2
      have nown : ∀ j, isOwn r1 j → p ≠ ad j := fun j h z => s.own_ne (g1.o j h) (by rw [← z]; exact n0)
      have ntab : ∀ q ∈ C.T, p ≠ q.1 := fun q hq z => by
        obtain ⟨ts, e1, _⟩ := s.hst.tabs q hq
        rw [← z, n0] at e1
        cases e1
      have hp2 : H2 p = some (.lst xs) := g2.keep p _ hp nown ntab
      have gp2 : G2 p = none := g2.nofz p (wr_lst hp) gp nown
      have np : p ∉ ps := fun h => by
        have := p2.mem h
        rw [hp] at this
        cases this
      exact k (.ref p :: vs) (p :: ps) G2 H2 s2 (g1.trans g2) (.w n0 gp2 (.inl ⟨x, xs, rfl, hp2, px.up g2.g⟩) np (p2.dom g1.dom))
/-- a new dict, a new list, held alone -/
def tM (C : Fc) (E : XK) (t : Bool) : TE := fun σ H Q => ∃ r ad G, Stt C r ad σ G H ∧ ∀ p G' H', Stt C r ad σ G' H' → Kp C r r ad G H G' H' → H p = none → G' p = none → DictAt C.K G' H' p t [] → Q (.ref p) H'
theorem m_K {pos : Pos} : PE X (.Dict [] [] pos) (tM C E false) := PE.imp pe_dnewK fun σ H Q ⟨r, ad, G, s, k⟩ q hq => by
  have gr : Grow G H G (upd H q (.dK [])) := Grow.layH s.hst.sub s.hst.gnt hq
  exact k q G _ (s.grow gr) (Kp.grow gr) hq (s.hst.sub.free hq) (.inl ⟨rfl, [], upd_same, .nil⟩)
theorem m_T {pos : Pos} : PE X (.Dict [] [] pos) (tM C E true) := PE.imp pe_dnewT fun σ H Q ⟨r, ad, G, s, k⟩ q hq => by
  have gr : Grow G H G (upd H q (.dT [])) := Grow.layH s.hst.sub s.hst.gnt hq
  exact k q G _ (s.grow gr) (Kp.grow gr) hq (s.hst.sub.free hq) (.inr ⟨rfl, [], upd_same, .nil⟩)
def vConsM (t : Bool) (b : MV) : MV := fun r => match b r with
  | .ok l r2 => .ok (.m t :: l) r2
  | .exc c fs => .exc c fs
  | .bad => .bad
theorem v_consM {e : Expr} {es : List Expr} {t : Bool} {b : MV} (ha : PE X e (tM C E t)) (hb : PA X es (tV2 C E b)) (hs : starEach (e :: es) X.env = (false, eval e X.env) :: starEach es X.env := by rfl) : PA X (e :: es) (tV2 C E (vConsM t b)) := by
  refine PA.imp (pa_cons ha hb hs) fun σ H Q ⟨r, ad, G, s, k⟩ => ⟨r, ad, G, s, ?_⟩
  intro p G1 H1 s1 g1 n0 gp hp
  refine ⟨r, ad, G1, s1, ?_⟩
  unfold vConsM at k
  unfold kV2 at k ⊢
  cases eb : b r with
  | bad => simp only [eb] at k
  | exc c fs => simp only [eb] at k; exact k
  | ok l r2 =>
    simp only [eb] at k
    intro vs ps G2 H2 s2 g2 p2
    have nown : ∀ j, isOwn r j → p ≠ ad j := fun j h z => s.own_ne h (by rw [← z]; exact n0)
    have ntab : ∀ q ∈ C.T, p ≠ q.1 := fun q hq z => by
      obtain ⟨ts, e1, _⟩ := s.hst.tabs q hq
      rw [← z, n0] at e1
      cases e1
    have hp2 : H2 p = H1 p := by
      obtain ⟨o, q⟩ := some_of_ne hp.ne
      rw [q, g2.keep p _ q nown ntab]
    have gp2 : G2 p = none := g2.nofz p hp.wr gp nown
    have np : p ∉ ps := fun h => hp.ne (p2.mem h)
    exact k (.ref p :: vs) (p :: ps) G2 H2 s2 (g1.trans g2) (.w n0 gp2 (.inr ⟨t, rfl, hp.up g2.g hp2⟩) np (p2.dom g1.dom))
/-- one slot set to what RpA tells -/
theorem Stt.setA {r : DEnv} {ad : Nat → Addr} {σ : L2.St} {G H' : Hp} {i : Nat} {v : V} {a : AV} (s : Stt C r ad σ G H')
    (h : (∃ x, a = .d x ∧ Rp C.K G v x) ∨ ∃ p, v = .ref p ∧ C.H0 p = none ∧ G p = none ∧ OwnAV C.K G H' p a ∧ ∀ j, isOwn r j → ad j ≠ p) :
    ∃ ad', Stt C (r.set i a.sl) ad' (σ.set i (some v)) G H' ∧ ∀ j, isOwn (r.set i a.sl) j → ad' j = ad j ∨ (.ref (ad' j) = v ∧ ∀ x, a ≠ .d x) := by
  rcases h with ⟨x, rfl, p⟩ | ⟨p, rfl, h0, g, h1, np⟩
  · exact ⟨ad, s.setD p, fun j _ => .inl rfl⟩
  · refine ⟨_, s.setN np g h0 ?_, fun j hj => ?_⟩
    · rcases h1 with ⟨l, xs, rfl, h1, p1⟩ | ⟨t, rfl, h1⟩
      · exact .inl ⟨l, xs, rfl, h1, p1⟩
      · exact .inr ⟨t, [], rfl, h1⟩
    by_cases e : j = i
    · rw [if_pos e]
      refine .inr ⟨rfl, fun x z => ?_⟩
      subst z
      rcases h1 with ⟨l, xs, z, _⟩ | ⟨t, z, _⟩ <;> cases z
    · rw [if_neg e]; exact .inl rfl
def sParV2 (i j : Nat) (a : MV) : MS := fun r => match a r with
  | .ok [x, y] r1 => .nx ((r1.set i x.sl).set j y.sl)
  | .exc c fs => .exc c fs
  | _ => .bad
def sParV3 (i j l : Nat) (a : MV) : MS := fun r => match a r with
  | .ok [x, y, z] r1 => .nx (((r1.set i x.sl).set j y.sl).set l z.sl)
  | .exc c fs => .exc c fs
  | _ => .bad
/-- the rows of RpA, one by one -/
theorem RpA.one {K : PySem.W.Frag} {G H' H : Hp} {vs : List V} {a : AV} {as : List AV} {ps : List Addr} (h : RpA K G H' H vs (a :: as) ps) : ∃ v ws qs, vs = v :: ws ∧ RpA K G H' H ws as qs ∧
    ((∃ x, a = .d x ∧ Rp K G v x ∧ qs = ps) ∨ ∃ p, v = .ref p ∧ H p = none ∧ G p = none ∧ OwnAV K G H' p a ∧ ps = p :: qs ∧ p ∉ qs) := by
  cases h with
  | d p r => exact ⟨_, _, _, rfl, r, .inl ⟨_, rfl, p, rfl⟩⟩
  | w e a b n r => exact ⟨_, _, _, rfl, r, .inr ⟨_, rfl, e, a, b, rfl, n⟩⟩
/-- all slots set, from the left -/
def setAll : List Nat → List AV → DEnv → DEnv
  | i :: is, a :: as, r => setAll is as (r.set i a.sl)
  | _, _, r => r
def setVs : List Nat → List V → L2.St → L2.St
  | i :: is, v :: vs, σ => setVs is vs (σ.set i (some v))
  | _, _, σ => σ
theorem Stt.setAll {G H' H : Hp} (h0 : ∀ p, H p = none → C.H0 p = none) : ∀ (is : List Nat) {r : DEnv} {ad : Nat → Addr} {σ : L2.St} {vs : List V} {as : List AV} {ps : List Addr}, Stt C r ad σ G H' → RpA C.K G H' H vs as ps → (∀ j, isOwn r j → ad j ∉ ps) → is.length = as.length →
    ∃ ad', Stt C (DL.setAll is as r) ad' (setVs is vs σ) G H'
  | [], r, ad, σ, vs, as, ps, s, p, n, hl => by
    cases as with
    | nil => cases p; exact ⟨ad, s⟩
    | cons _ _ => cases hl
  | i :: is, r, ad, σ, vs, as, ps, s, p, n, hl => by
    cases as with
    | nil => cases hl
    | cons a as =>
      obtain ⟨v, ws, qs, rfl, pr, h⟩ := p.one
      have hl' : is.length = as.length := by simpa using hl
      rcases h with ⟨x, rfl, px, rfl⟩ | ⟨q, rfl, e1, e2, e3, rfl, e5⟩
      · obtain ⟨ad1, s1, o1⟩ := s.setA (i := i) (.inl ⟨x, rfl, px⟩)
        refine Stt.setAll h0 is s1 pr (fun j hj => ?_) hl'
        rcases o1 j hj with z | ⟨_, z⟩
        · rw [z]; exact n j (own_set_dat hj).2
        · exact absurd rfl (z x)
      · obtain ⟨ad1, s1, o1⟩ := s.setA (i := i) (.inr ⟨q, rfl, h0 q e1, e2, e3, fun j hj z => n j hj (by rw [z]; exact List.mem_cons_self)⟩)
        refine Stt.setAll h0 is s1 pr (fun j hj => ?_) hl'
        rcases o1 j hj with z | ⟨z, _⟩
        · rw [z]
          rcases own_set hj with y | y
          · intro hm
            have zi : ad1 i = q := by
              have key : (σ.set i (some (.ref q)))[i]? = some (some (V.ref (ad1 i))) := by
                rw [y] at hj
                rcases hj with ⟨k, l, h⟩ | ⟨t, l, h⟩ | ⟨c, l, h⟩
                · exact (s1.own i k l h).1
                · exact (s1.ownD i t l h).1
                · exact (s1.ownI i c l h).1
              have hi : i < σ.length := by
                have := lt_of_get key
                simpa using this
              rw [set_at hi] at key
              injection key with key
              injection key with key
              injection key with key
              exact key.symm
            rw [← z, y, zi] at hm
            exact e5 hm
          · exact fun hm => n j y (List.mem_cons_of_mem _ hm)
        · injection z with z
          rw [z]; exact e5
theorem s_parV2 {i j : Nat} {x y : Str} {a b : Expr} {m : MV} {px py pt : Pos} {kt k2 pt2} (hN : X.N.Nodup) (ha : PA X [a, b] (tV2 C E m)) (hi : X.N[i]? = some x := by rfl) (hj : X.N[j]? = some y := by rfl) (hij : i ≠ j := by decide)
    (hx : X.env.scope.names.lookup x = some .local := by rfl) (hy : X.env.scope.names.lookup y = some .local := by rfl) (hc : X.calm = true := by rfl)
    (hw : swappedStores [.Tuple [.Name x px, .Name y py] kt pt] (.Tuple [a, b] k2 pt2) X.env = pure (some [x, y]) := by rfl)
    (hs : swapsWithSole [.Tuple [.Name x px, .Name y py] kt pt] (.Tuple [a, b] k2 pt2) pos.line X.env = pure false := by rfl) :
    PS X (.Assign [.Tuple [.Name x px, .Name y py] kt pt] (.Tuple [a, b] k2 pt2) pos) (tS C E (sParV2 i j m)) := by
  refine PS.imp (ps_par hc hN hi hj hij hx hy ha hw hs) fun Dn σ H ⟨r, ad, G, s, k⟩ => ⟨r, ad, G, s, ?_⟩
  unfold sParV2 at k
  unfold kV2
  cases e : m r with
  | bad => simp only [e] at k; exact k.elim
  | exc c fs => simp only [e] at k; exact k
  | ok l r1 =>
    simp only [e] at k
    intro vs ps G1 H1 s1 k1 p1
    have no : ∀ q, isOwn r1 q → ad q ∉ ps := fun q hq hm => s.own_ne (k1.o q hq) (p1.mem hm)
    have two : ∀ {a b : AV}, l = [a, b] → ∃ u v, vs = [u, v] := by
      rintro a b rfl
      obtain ⟨v, ws, qs, rfl, p2, _⟩ := p1.one
      obtain ⟨v2, ws2, qs2, rfl, p3, _⟩ := p2.one
      cases p3
      exact ⟨v, v2, rfl⟩
    split at k
    · rename_i a b r2 heq
      cases heq
      obtain ⟨u, v, rfl⟩ := two rfl
      obtain ⟨ad', s'⟩ := Stt.setAll (fun p hp => new_H0 s hp) [i, j] s1 p1 no rfl
      exact ⟨u, v, rfl, k ad' _ G1 H1 s' k1.g⟩
    · rename_i heq; cases heq
    · exact k.elim
theorem s_parV3 {i j l : Nat} {x y z : Str} {a b c : Expr} {m : MV} {px py pz pt : Pos} {kt k2 pt2} (hN : X.N.Nodup) (ha : PA X [a, b, c] (tV2 C E m)) (hi : X.N[i]? = some x := by rfl) (hj : X.N[j]? = some y := by rfl) (hl : X.N[l]? = some z := by rfl) (hij : i ≠ j := by decide) (hil : i ≠ l := by decide) (hjl : j ≠ l := by decide)
    (hx : X.env.scope.names.lookup x = some .local := by rfl) (hy : X.env.scope.names.lookup y = some .local := by rfl) (hz : X.env.scope.names.lookup z = some .local := by rfl) (hc : X.calm = true := by rfl)
    (hw : swappedStores [.Tuple [.Name x px, .Name y py, .Name z pz] kt pt] (.Tuple [a, b, c] k2 pt2) X.env = pure (some [x, y, z]) := by rfl)
    (hs : swapsWithSole [.Tuple [.Name x px, .Name y py, .Name z pz] kt pt] (.Tuple [a, b, c] k2 pt2) pos.line X.env = pure false := by rfl) :
    PS X (.Assign [.Tuple [.Name x px, .Name y py, .Name z pz] kt pt] (.Tuple [a, b, c] k2 pt2) pos) (tS C E (sParV3 i j l m)) := by
  refine PS.imp (ps_par3 hc hN hi hj hl hij hil hjl hx hy hz ha hw hs) fun Dn σ H ⟨r, ad, G, s, k⟩ => ⟨r, ad, G, s, ?_⟩
  unfold sParV3 at k
  unfold kV2
  cases e : m r with
  | bad => simp only [e] at k; exact k.elim
  | exc c fs => simp only [e] at k; exact k
  | ok l r1 =>
    simp only [e] at k
    intro vs ps G1 H1 s1 k1 p1
    have no : ∀ q, isOwn r1 q → ad q ∉ ps := fun q hq hm => s.own_ne (k1.o q hq) (p1.mem hm)
    have two : ∀ {a b c : AV}, l = [a, b, c] → ∃ u v w, vs = [u, v, w] := by
      rintro a b c rfl
      obtain ⟨v, ws, qs, rfl, p2, _⟩ := p1.one
      obtain ⟨v2, ws2, qs2, rfl, p3, _⟩ := p2.one
      obtain ⟨v3, ws3, qs3, rfl, p4, _⟩ := p3.one
      cases p4
      exact ⟨v, v2, v3, rfl⟩
    split at k
    · rename_i a b c r2 heq
      cases heq
      obtain ⟨u, v, w, rfl⟩ := two rfl
      obtain ⟨ad', s'⟩ := Stt.setAll (fun p hp => new_H0 s hp) [i, j, _] s1 p1 no rfl
      exact ⟨u, v, w, rfl, k ad' _ G1 H1 s' k1.g⟩
    · rename_i heq; cases heq
    · exact k.elim
/-! ### a row of targets, of any number, cells too: the values are put into a tuple first -/
def tGn (is : List Nat) : TGs := fun vs σ H Q => vs.length = is.length ∧ Q (setVs is vs σ) H
theorem PGs.imp {es : List Expr} {t t' : TGs} (h : PGs X es t) (i : ∀ vs σ H Q, t' vs σ H Q → t vs σ H Q) : PGs X es t' := ⟨fun pins s σ H vs us Q I r q => h.run pins s σ H vs us Q I r (i _ _ _ _ q)⟩
theorem gv_nil : PGs X [] (tGn []) := PGs.imp pgs_nil fun vs σ H Q ⟨h, q⟩ => by
  cases vs with
  | nil => exact ⟨rfl, q⟩
  | cons _ _ => cases h
theorem gv_cons {i : Nat} {x : Str} {is : List Nat} {es : List Expr} {pos : Pos} (hN : X.N.Nodup) (h2 : PGs X es (tGn is)) (hi : X.N[i]? = some x := by rfl) (hx : Loc X.env.scope x := by first | exact Or.inl rfl | exact Or.inr rfl) (hf : X.fn x = true ∨ X.env.scope.names.lookup x = some .local := by first | exact .inl rfl | exact .inr rfl | assumption)
    (hs : (assignEach (.Name x pos :: es) X.env).map (·.2) = assign (.Name x pos) X.env :: (assignEach es X.env).map (·.2) := by rfl) : PGs X (.Name x pos :: es) (tGn (i :: is)) := PGs.imp (pgs_cons (pg_name hN hi hx hf) h2 hs) fun vs σ H Q ⟨h, q⟩ => by
  cases vs with
  | nil => cases h
  | cons v vs => exact ⟨v, vs, rfl, by simpa using h, q⟩
def sParT (is : List Nat) (a : MV) : MS := fun r => match a r with
  | .ok l r1 => if l.length = is.length ∧ l.length ≤ 1000 then .nx (DL.setAll is l r1) else .bad
  | .exc c fs => .exc c fs
  | .bad => .bad
theorem s_parT {is : List Nat} {n : Nat} {ts es : List Expr} {m : MV} {pt : Pos} {kt k2 : Nat} {pt2 : Pos} (ha : PA X es (tV2 C E m)) (hg : PGs X ts (tGn is)) (hc : X.calm = true := by rfl)
    (hn : (assignEach ts X.env).length = n := by rfl) (hst : (assignEach ts X.env).findIdx? (·.1) = none := by rfl) (hl : is.length = n := by rfl)
    (hs : swapsWithSole [.Tuple ts kt pt] (.Tuple es k2 pt2) pos.line X.env = pure false := by rfl) (hw : swappedStores [.Tuple ts kt pt] (.Tuple es k2 pt2) X.env = pure none := by rfl)
    (h1 : (assignEach [.Tuple ts kt pt] X.env).map (·.2) = [assign (.Tuple ts kt pt) X.env] := by rfl) : PS X (.Assign [.Tuple ts kt pt] (.Tuple es k2 pt2) pos) (tS C E (sParT is m)) := by
  refine PS.imp (ps_asg (pe_tup ha) (pg_tup hc hg hn hst) hs hw h1) fun Dn σ H ⟨r, ad, G, s, k⟩ => ⟨r, ad, G, s, ?_⟩
  unfold sParT at k
  unfold kV2
  cases e : m r with
  | bad => simp only [e] at k; exact k.elim
  | exc c fs => simp only [e] at k; exact k
  | ok l r1 =>
    simp only [e] at k
    split at k
    · rename_i hk
      intro vs ps G1 H1 s1 k1 p1
      have vl := p1.len
      refine ⟨by rw [vl]; exact Nat.le_trans hk.2 (by decide), fun q hq => ⟨q, vs, rfl, SqT.of upd_same, by rw [vl, hk.1, hl], by rw [vl, hk.1], ?_⟩⟩
      have gr : Grow G1 H1 G1 (upd H1 q (.tup vs)) := Grow.layH s1.hst.sub s1.hst.gnt hq
      have no : ∀ j, isOwn r1 j → ad j ∉ ps := fun j hj hm => s.own_ne (k1.o j hj) (p1.mem hm)
      obtain ⟨ad', s'⟩ := Stt.setAll (fun p hp => new_H0 s hp) is (s1.grow gr) (p1.lay hq) no hk.1.symm
      exact k ad' _ G1 _ s' k1.g
    · exact k.elim
end
end DL

/-! insert, extend; appending to what a call gives; min, max, sum, abs; index; isinstance of three; is. -/
namespace DL
open PySem PySem.Spec PyProof.Rows L2 LamX
section
variable {X : Cx} {C : Fc} {E : XK} {pos : Pos}
/-! ### x.insert(j, e) -/
def sIns (i : Nat) (mj m : ME) : MS := fun r => match r[i]? with
  | some (.own _ _) => (match mj r with
    | .ok (.int j) r1 => (match m r1 with
      | .ok d r2 => (match r2[i]? with
        | some (.own k l) => if l.length < 16777216 ∧ 0 ≤ j ∧ j < 2 ^ 63 then .nx (r2.set i (.own k (l.take j.toNat ++ [d] ++ l.drop j.toNat))) else .bad
        | _ => .bad)
      | .exc c fs => .exc c fs
      | .bad => .bad)
    | .exc c fs => .exc c fs
    | _ => .bad)
  | _ => .bad
theorem RpL.take {K : PySem.W.Frag} {G : Hp} : ∀ (n : Nat) {vs : List V} {l : List D}, RpL K G vs l → RpL K G (vs.take n) (l.take n)
  | 0, _, _, _ => .nil
  | _ + 1, _, _, .nil => .nil
  | n + 1, _, _, .cons a t => .cons a (t.take n)
theorem RpL.drop {K : PySem.W.Frag} {G : Hp} : ∀ (n : Nat) {vs : List V} {l : List D}, RpL K G vs l → RpL K G (vs.drop n) (l.drop n)
  | 0, _, _, h => h
  | _ + 1, _, _, .nil => .nil
  | n + 1, _, _, .cons _ t => t.drop n
theorem s_ins {i : Nat} {x : Str} {ej e : Expr} {mj m : ME} {p apos cpos : Pos} (hj : PE X ej (tE C E mj)) (he : PE X e (tE C E m)) (hN : X.N[i]? = some x := by rfl) (hv : Vis X.env.scope x := by first | exact Or.inl rfl | exact Or.inr (Or.inl rfl) | exact Or.inr (Or.inr rfl))
    (hd : (x == ("__debug__" : Str)) = false := by decide) (hcd : (x == ("__classdict__" : Str)) = false := by decide)
    (hsw : swapsWith (.Call (.Attribute (.Name x p) "insert" apos) [ej, e] [] cpos) none pos.line X.env = pure false := by rfl)
    (hbase : attributeBase (.Name x p) "insert" X.env (eval (.Name x p) X.env) = eval (.Name x p) X.env := by rfl)
    (hfew : ((backTo cpos (starEach [ej, e] X.env)).all (fun x => !x.1) && (backToKw cpos (keywordEach [] X.env)).all (fun x => x.1.isSome)
      && decide ([ej, e].length + ([] : List Keyword).length + (if ([] : List Keyword).isEmpty then 0 else 1) < 30)) = true := by rfl)
    (hline : (apos.endLine == cpos.line) = true := by rfl) (hs : starEach [ej, e] X.env = (false, eval ej X.env) :: starEach [e] X.env := by rfl) (hs2 : starEach [e] X.env = (false, eval e X.env) :: starEach [] X.env := by rfl) (hplain : (backTo cpos (starEach [e] X.env)).any (·.1) = false := by rfl) :
    PS X (.Expr (.Call (.Attribute (.Name x p) "insert" apos) [ej, e] [] cpos) pos) (tS C E (sIns i mj m)) := by
  refine PS.imp (ps_expr (pe_bm PySem.F.plainAttrs_list PySem.F.slot_list_insert PySem.F.type_list_insert mt_insert (pe_var hN hv hd hcd) (pa_cons hj (pa_cons he pa_nil hs2) hs) hbase hfew hline hs hplain) hsw) fun Dn σ H ⟨r, ad, G, s, k⟩ => ?_
  unfold sIns at k
  split at k
  · rename_i k0 l0 e0
    obtain ⟨h1, _, _, xs0, h4, _⟩ := s.own i k0 l0 e0
    refine ⟨_, h1, .inl ⟨rfl, xs0, SqL.of h4⟩, r, ad, G, s, ?_⟩
    unfold kE
    cases ej : mj r with
    | bad => simp only [ej] at k; exact k.elim
    | exc c fs => simp only [ej] at k; exact k
    | ok dj r1 =>
      simp only [ej] at k
      cases dj with
      | int j =>
        intro vj G1 H1 s1 k1 p1
        cases p1
        simp only at k
        refine ⟨r1, ad, G1, s1, ?_⟩
        unfold kE
        cases em : m r1 with
        | bad => simp only [em] at k; exact k.elim
        | exc c fs => simp only [em] at k; exact k
        | ok d r2 =>
          simp only [em] at k
          intro v G2 H2 s2 k2 p2
          split at k
          · rename_i kk l el
            split at k
            · rename_i hl
              obtain ⟨z1, z2, z3, xs, z4, z5⟩ := s2.own i kk l el
              refine ⟨_, xs, j, v, rfl, rfl, z4, by rw [z5.length, sizeLine_eq]; exact hl.1, hl.2.1, hl.2.2, ?_⟩
              exact k ad σ G2 _ (s2.putO el (((z5.take _).append (.cons p2 .nil)).append (z5.drop _))) (k1.g.trans k2.g)
            · exact k.elim
          · exact k.elim
      | _ => exact k.elim
  · exact k.elim
/-! ### x.extend(e) -/
def sExt (i : Nat) (m : ME) : MS := fun r => match r[i]? with
  | some (.own _ _) => (match m r with
    | .ok (.lst d) r1 => (match r1[i]? with
      | some (.own k l) => if l.length + d.length ≤ 16777216 then .nx (r1.set i (.own k (l ++ d))) else .bad
      | _ => .bad)
    | .exc c fs => .exc c fs
    | _ => .bad)
  | _ => .bad
theorem s_ext {i : Nat} {x : Str} {e : Expr} {m : ME} {p apos cpos : Pos} (he : PE X e (tE C E m)) (hN : X.N[i]? = some x := by rfl) (hv : Vis X.env.scope x := by first | exact Or.inl rfl | exact Or.inr (Or.inl rfl) | exact Or.inr (Or.inr rfl))
    (hd : (x == ("__debug__" : Str)) = false := by decide) (hcd : (x == ("__classdict__" : Str)) = false := by decide)
    (hsw : swapsWith (.Call (.Attribute (.Name x p) "extend" apos) [e] [] cpos) none pos.line X.env = pure false := by rfl)
    (hbase : attributeBase (.Name x p) "extend" X.env (eval (.Name x p) X.env) = eval (.Name x p) X.env := by rfl)
    (hfew : ((backTo cpos (starEach [e] X.env)).all (fun x => !x.1) && (backToKw cpos (keywordEach [] X.env)).all (fun x => x.1.isSome)
      && decide ([e].length + ([] : List Keyword).length + (if ([] : List Keyword).isEmpty then 0 else 1) < 30)) = true := by rfl)
    (hline : (apos.endLine == cpos.line) = true := by rfl) (hs : starEach [e] X.env = (false, eval e X.env) :: starEach [] X.env := by rfl) (hplain : (backTo cpos (starEach [] X.env)).any (·.1) = false := by rfl) :
    PS X (.Expr (.Call (.Attribute (.Name x p) "extend" apos) [e] [] cpos) pos) (tS C E (sExt i m)) := by
  refine PS.imp (ps_expr (pe_bm PySem.F.plainAttrs_list PySem.F.slot_list_extend PySem.F.type_list_extend mt_extend (pe_var hN hv hd hcd) (pa_cons he pa_nil hs) hbase hfew hline hs hplain) hsw) fun Dn σ H ⟨r, ad, G, s, k⟩ => ?_
  unfold sExt at k
  split at k
  · rename_i k0 l0 e0
    obtain ⟨h1, _, _, xs0, h4, _⟩ := s.own i k0 l0 e0
    refine ⟨_, h1, .inl ⟨rfl, xs0, SqL.of h4⟩, r, ad, G, s, ?_⟩
    unfold kE
    cases em : m r with
    | bad => simp only [em] at k; exact k.elim
    | exc c fs => simp only [em] at k; exact k
    | ok d r1 =>
      simp only [em] at k
      cases d with
      | lst ds =>
        intro v G1 H1 s1 k1 p1
        simp only at k
        split at k
        · rename_i kk l el
          split at k
          · rename_i hl
            obtain ⟨z1, z2, z3, xs, z4, z5⟩ := s1.own i kk l el
            cases p1 with
            | lst hs hp =>
              refine ⟨_, _, xs, _, rfl, rfl, z4, s1.hst.sub _ _ hs, by rw [z5.length, hp.length, sizeLine_eq]; exact hl, ?_⟩
              exact k ad σ G1 _ (s1.putO el (z5.append hp)) k1.g
          · exact k.elim
        · exact k.elim
      | _ => exact k.elim
  · exact k.elim
/-! ### e.append(f), e a call that gives a new list -/
def sAppT (mo : MA) (m : ME) : MS := fun r => match mo r with
  | .ok l r1 => (match m r1 with
    | .ok _ r2 => if l.length < 16777216 then .nx r2 else .bad
    | .exc c fs => .exc c fs
    | .bad => .bad)
  | .exc c fs => .exc c fs
  | .bad => .bad
theorem s_appT {o e : Expr} {mo : MA} {m : ME} {apos cpos : Pos} (ho : PE X o (tO C E mo)) (he : PE X e (tE C E m)) (hsw : swapsWith (.Call (.Attribute o "append" apos) [e] [] cpos) none pos.line X.env = pure false := by rfl)
    (hbase : attributeBase o "append" X.env (eval o X.env) = eval o X.env := by rfl)
    (hfew : ((backTo cpos (starEach [e] X.env)).all (fun x => !x.1) && (backToKw cpos (keywordEach [] X.env)).all (fun x => x.1.isSome)
      && decide ([e].length + ([] : List Keyword).length + (if ([] : List Keyword).isEmpty then 0 else 1) < 30)) = true := by rfl)
    (hline : (apos.endLine == cpos.line) = true := by rfl) (hs : starEach [e] X.env = (false, eval e X.env) :: starEach [] X.env := by rfl) (hplain : (backTo cpos (starEach [] X.env)).any (·.1) = false := by rfl) :
    PS X (.Expr (.Call (.Attribute o "append" apos) [e] [] cpos) pos) (tS C E (sAppT mo m)) := by
  refine PS.imp (ps_expr (pe_bm PySem.F.plainAttrs_list PySem.F.slot_list_append PySem.F.type_list_append mt_append ho (pa_cons he pa_nil hs) hbase hfew hline hs hplain) hsw) fun Dn σ H ⟨r, ad, G, s, k⟩ => ⟨r, ad, G, s, ?_⟩
  unfold sAppT at k
  unfold kO
  cases eo : mo r with
  | bad => simp only [eo] at k; exact k
  | exc c fs => simp only [eo] at k; exact k
  | ok l r1 =>
    simp only [eo] at k
    intro p xs G1 H1 s1 k1 n0 gp hp px
    refine ⟨.inl ⟨rfl, xs, SqL.of hp⟩, r1, ad, G1, s1, ?_⟩
    unfold kE
    cases em : m r1 with
    | bad => simp only [em] at k; exact k
    | exc c fs => simp only [em] at k; exact k
    | ok d r2 =>
      simp only [em] at k
      intro v G2 H2 s2 k2 p2
      split at k
      · rename_i hl
        have nown : ∀ j, isOwn r1 j → p ≠ ad j := fun j h z => s.own_ne (k1.o j h) (by rw [← z]; exact n0)
        have ntab : ∀ q ∈ C.T, p ≠ q.1 := fun q hq z => by
          obtain ⟨ts, e1, _⟩ := s.hst.tabs q hq
          rw [← z, n0] at e1
          cases e1
        have hp2 : H2 p = some (.lst xs) := k2.keep p _ hp nown ntab
        have gp2 : G2 p = none := k2.nofz p (wr_lst hp) gp nown
        refine ⟨p, xs, v, rfl, rfl, hp2, by rw [px.length, sizeLine_eq]; exact hl, ?_⟩
        exact k ad σ G2 _ (s2.away gp2 (new_H0 s n0) hp2 trivial (fun _ z => nomatch z) (fun _ _ z => by cases z) fun j h z => nown j (k2.o j h) z.symm) (k1.g.trans k2.g)
      · exact k.elim
/-! ### min, max, sum, abs -/
def intsD : List D → Option (List Int)
  | [] => some []
  | .int i :: l => (intsD l).map (i :: ·)
  | _ :: _ => none
theorem intsD_rp {K : PySem.W.Frag} {G : Hp} : ∀ {l : List D} {vs : List V} {ns : List Int}, RpL K G vs l → intsD l = some ns → vs = ns.map V.int
  | [], _, _, h, e => by cases h; cases e; rfl
  | d :: l, _, ns, h, e => by
    cases h with
    | cons h1 h2 =>
      cases d <;> first | (simp [intsD] at e; done) | skip
      rename_i i
      simp only [intsD] at e
      cases q : intsD l with
      | none => rw [q] at e; cases e
      | some ms =>
        rw [q] at e
        cases e
        rw [intsD_rp h2 q, rp_int h1]
        rfl
def minI : List Int → Option Int
  | [] => none
  | x :: l => match minI l with
    | none => some x
    | some m => some (if x ≤ m then x else m)
def maxI : List Int → Option Int
  | [] => none
  | x :: l => match maxI l with
    | none => some x
    | some m => some (if m ≤ x then x else m)
theorem minI_ok : ∀ {l : List Int} {m : Int}, minI l = some m → m ∈ l ∧ ∀ y ∈ l, m ≤ y
  | [], _, e => by cases e
  | x :: l, m, e => by
    unfold minI at e
    cases q : minI l with
    | none =>
      rw [q] at e
      cases e
      have : l = [] := by
        cases l with
        | nil => rfl
        | cons y l => unfold minI at q; split at q <;> cases q
      subst this
      simp
    | some k =>
      rw [q] at e
      obtain ⟨h1, h2⟩ := minI_ok q
      cases e
      split
      · rename_i hx
        refine ⟨List.mem_cons_self, fun y hy => ?_⟩
        rcases List.mem_cons.mp hy with rfl | hy
        · exact Int.le_refl _
        · exact Int.le_trans hx (h2 y hy)
      · rename_i hx
        refine ⟨List.mem_cons_of_mem _ h1, fun y hy => ?_⟩
        rcases List.mem_cons.mp hy with rfl | hy
        · omega
        · exact h2 y hy
theorem maxI_ok : ∀ {l : List Int} {m : Int}, maxI l = some m → m ∈ l ∧ ∀ y ∈ l, y ≤ m
  | [], _, e => by cases e
  | x :: l, m, e => by
    unfold maxI at e
    cases q : maxI l with
    | none =>
      rw [q] at e
      cases e
      have : l = [] := by
        cases l with
        | nil => rfl
        | cons y l => unfold maxI at q; split at q <;> cases q
      subst this
      simp
    | some k =>
      rw [q] at e
      obtain ⟨h1, h2⟩ := maxI_ok q
      cases e
      split
      · rename_i hx
        refine ⟨List.mem_cons_self, fun y hy => ?_⟩
        rcases List.mem_cons.mp hy with rfl | hy
        · exact Int.le_refl _
        · exact Int.le_trans (h2 y hy) hx
      · rename_i hx
        refine ⟨List.mem_cons_of_mem _ h1, fun y hy => ?_⟩
        rcases List.mem_cons.mp hy with rfl | hy
        · omega
        · exact h2 y hy
def gMin (d : D) : Option D := match d with
  | .lst l => (intsD l).bind fun ns => (minI ns).map .int
  | _ => none
def gMax (d : D) : Option D := match d with
  | .lst l => (intsD l).bind fun ns => (maxI ns).map .int
  | _ => none
def gSum (d : D) : Option D := match d with
  | .lst l => (intsD l).map fun ns => .int ns.sum
  | _ => none
def gAbs (d : D) : Option D := match d with
  | .int i => some (.int (if i < 0 then -i else i))
  | _ => none
def gMin2 (x y : D) : Option D := match x, y with
  | .int i, .int j => some (.int (if j < i then j else i))
  | _, _ => none
def gMax2 (x y : D) : Option D := match x, y with
  | .int i, .int j => some (.int (if j > i then j else i))
  | _, _ => none
theorem one_D {g : D → Option D} {q : List V → Hp → VK → Prop} (h : ∀ G H v x d (Q : VK), Hst C G H → Rp C.K G v x → g x = some d → (∀ v G' H', Grow G H G' H' → Rp C.K G' v d → Q v H') → q [v] H Q) : CallD C q (b1 g) := by
  intro G H vs ds d Q s p e k
  cases p with
  | nil => cases e
  | cons p1 p2 =>
    cases p2 with
    | nil => exact h G H _ _ d Q s p1 e k
    | cons _ _ => cases e
theorem two_D {g : D → D → Option D} {q : List V → Hp → VK → Prop} (h : ∀ G H v w x y d (Q : VK), Hst C G H → Rp C.K G v x → Rp C.K G w y → g x y = some d → (∀ v G' H', Grow G H G' H' → Rp C.K G' v d → Q v H') → q [v, w] H Q) : CallD C q (b2 g) := by
  intro G H vs ds d Q s p e k
  cases p with
  | nil => cases e
  | cons p1 p2 =>
    cases p2 with
    | nil => cases e
    | cons p2 p3 =>
      cases p3 with
      | nil => exact h G H _ _ _ _ d Q s p1 p2 e k
      | cons _ _ => cases e
theorem d_min : CallD C (rMin C.K) (b1 gMin) := one_D fun G H v x d Q s p e k => by
  unfold gMin at e
  split at e <;> first | (cases e; done) | skip
  rename_i l
  cases q : intsD l with
  | none => rw [q] at e; cases e
  | some ns =>
    rw [q] at e
    simp only [Option.bind_some] at e
    cases qm : minI ns with
    | none => rw [qm] at e; cases e
    | some m0 =>
      rw [qm] at e
      cases e
      cases p with
      | lst hs hp =>
        obtain ⟨a1, a2⟩ := minI_ok qm
        refine ⟨_, ns, rfl, by rw [← intsD_rp hp q]; exact SqL.of (s.sub _ _ hs), List.length_pos_of_mem a1, fun m hm hy => ?_⟩
        have e1 := hy m0 a1
        have e2 := a2 m hm
        have e3 : m = m0 := by omega
        rw [e3]
        exact k _ G H (Grow.refl s) (.int _)
theorem d_max : CallD C (rMax C.K) (b1 gMax) := one_D fun G H v x d Q s p e k => by
  unfold gMax at e
  split at e <;> first | (cases e; done) | skip
  rename_i l
  cases q : intsD l with
  | none => rw [q] at e; cases e
  | some ns =>
    rw [q] at e
    simp only [Option.bind_some] at e
    cases qm : maxI ns with
    | none => rw [qm] at e; cases e
    | some m0 =>
      rw [qm] at e
      cases e
      cases p with
      | lst hs hp =>
        obtain ⟨a1, a2⟩ := maxI_ok qm
        refine ⟨_, ns, rfl, by rw [← intsD_rp hp q]; exact SqL.of (s.sub _ _ hs), List.length_pos_of_mem a1, fun m hm hy => ?_⟩
        have e1 := hy m0 a1
        have e2 := a2 m hm
        have e3 : m = m0 := by omega
        rw [e3]
        exact k _ G H (Grow.refl s) (.int _)
theorem d_sum : CallD C (rSum C.K) (b1 gSum) := one_D fun G H v x d Q s p e k => by
  unfold gSum at e
  split at e <;> first | (cases e; done) | skip
  rename_i l
  cases q : intsD l with
  | none => rw [q] at e; cases e
  | some ns =>
    rw [q] at e
    cases e
    cases p with
    | lst hs hp => exact ⟨_, ns, rfl, by rw [← intsD_rp hp q]; exact SqL.of (s.sub _ _ hs), k _ G H (Grow.refl s) (.int _)⟩
theorem d_abs : CallD C (fun xs H Q => ∃ i, xs = [.int i] ∧ Q (.int (if i < 0 then -i else i)) H) (b1 gAbs) := one_D fun G H v x d Q s p e k => by
  cases p <;> first | (cases e; done) | skip
  cases e
  exact ⟨_, rfl, k _ G H (Grow.refl s) (.int _)⟩
theorem d_min2 : CallD C (fun xs H Q => ∃ i j, xs = [.int i, .int j] ∧ Q (.int (if j < i then j else i)) H) (b2 gMin2) := two_D fun G H v w x y d Q s p1 p2 e k => by
  cases p1 <;> first | (cases e; done) | skip
  cases p2 <;> first | (cases e; done) | skip
  cases e
  exact ⟨_, _, rfl, k _ G H (Grow.refl s) (.int _)⟩
theorem d_max2 : CallD C (fun xs H Q => ∃ i j, xs = [.int i, .int j] ∧ Q (.int (if j > i then j else i)) H) (b2 gMax2) := two_D fun G H v w x y d Q s p1 p2 e k => by
  cases p1 <;> first | (cases e; done) | skip
  cases p2 <;> first | (cases e; done) | skip
  cases e
  exact ⟨_, _, rfl, k _ G H (Grow.refl s) (.int _)⟩
/-! ### is -/
def gIsB (x y : D) : Option D := match x, y with
  | .bl a, .bl b => some (.bl (decide (a = b)))
  | _, _ => none
theorem d_isB : OpD C rIsB gIsB := by
  intro G H v1 v2 d1 d2 d Q s p1 p2 e k
  cases p1 <;> first | (cases e; done) | skip
  cases p2 <;> first | (cases e; done) | skip
  cases e
  exact ⟨_, _, rfl, rfl, k _ G H (Grow.refl s) (.bl _)⟩
/-! ### l.index(x) -/
def gIndex (x y : D) : Option D := match x with
  | .lst l => if okEq (.lst l) && okEq y then (l.findIdx? fun z => eqB z y).map fun j => .int (j : Nat) else none
  | _ => none
end
end DL

/-! index of any data; isinstance of three classes; defs that call themselves. -/
namespace DL
open PySem PySem.Spec PyProof.Rows L2 LamX
section
variable {X : Cx} {C : Fc} {E : XK} {pos : Pos}
theorem d_indexG : OpD C (fun x y H Q => rIndexD C.K x [y] H Q) gIndex := by
  intro G H v1 v2 d1 d2 d Q s h1 h2 e k
  cases d1 <;> first | (cases e; done) | skip
  rename_i l
  unfold gIndex at e
  simp only at e
  cases ho : (okEq (.lst l) && okEq d2) with
  | false => rw [ho] at e; cases e
  | true =>
    rw [if_pos ho] at e
    obtain ⟨o1, o2⟩ := Bool.and_eq_true_iff.mp ho
    cases ej : l.findIdx? (fun z => eqB z d2) with
    | none => rw [ej] at e; cases e
    | some j =>
      rw [ej] at e
      cases e
      obtain ⟨hj, a1, a2⟩ := List.findIdx?_eq_some_iff_getElem.mp ej
      cases h1 with
      | lst hs hp =>
        refine ⟨_, v2, toP d2, toPs l, j, toP l[j], rfl, rfl, ?_, ?_, o1, o2, ?_, a1, fun m z' hm hz => ?_, k _ G H (Grow.refl s) (.int _)⟩
        · exact dp_of s.sub (.lst l) _ (SeqAt.canLay_of_shaped o1) (.lst hs hp)
        · exact dp_of s.sub d2 v2 (SeqAt.canLay_of_shaped o2) h2
        · rw [toPs_map, List.getElem?_map, List.getElem?_eq_getElem hj]; rfl
        · rw [toPs_map, List.getElem?_map] at hz
          have hm' : m < l.length := by omega
          rw [List.getElem?_eq_getElem hm'] at hz
          cases hz
          have := a2 m hm
          simpa [eqB] using this
theorem ty_lstG {G H : Hp} {v : V} {x : D} (e : Same G H) (h : Rp C.K G v x) (hx : ∃ y d, gIndex x y = some d) : tyV X.K "list" v H := by
  obtain ⟨y, d, hx⟩ := hx
  cases x <;> first | (cases hx; done) | skip
  cases h with
  | lst hs _ => exact .inl ⟨rfl, _, SqL.of (e _ _ hs)⟩
def gIsi3 (d : D) : Option D := match d with
  | .scr _ => none
  | .obj _ _ => none
  | d => some (.bl (isT .int d || (isT .list d || isT .tuple d)))
theorem e_isi3 {e : Expr} {m : ME} {p p0 p1 p2 p3 : Pos} {kk : Nat} (hi : X.mg "isinstance" = none) (h0 : X.mg "int" = none) (hl : X.mg "list" = none) (ht : X.mg "tuple" = none) (h : PE X e (tE C E m)) (hK : C.K = X.K := by rfl) (hgi : Gl X "isinstance" := by rfl) (hg0 : Gl X "int" := by rfl) (hgl : Gl X "list" := by rfl) (hgt : Gl X "tuple" := by rfl)
    (hs : starEach [e, .Tuple [.Name "int" p0, .Name "list" p1, .Name "tuple" p2] kk p3] X.env = (false, eval e X.env) :: starEach [.Tuple [.Name "int" p0, .Name "list" p1, .Name "tuple" p2] kk p3] X.env := by rfl) (hpl : (backTo pos (starEach [.Tuple [.Name "int" p0, .Name "list" p1, .Name "tuple" p2] kk p3] X.env)).any (·.1) = false := by rfl) :
    PE X (.Call (.Name "isinstance" p) [e, .Tuple [.Name "int" p0, .Name "list" p1, .Name "tuple" p2] kk p3] [] pos) (tE C E (mUn gIsi3 m)) := by
  refine PE.imp (pe_callB call_isiTY hgi hi (by decide +kernel) (pa_cons h (pa_cons (pe_tup (pa_cons (pe_bltn (v := .ty "int") hg0 h0 (by decide +kernel) rfl) (pa_cons (pe_bltn (v := .ty "list") hgl hl (by decide +kernel) rfl) (pa_cons (pe_bltn (v := .ty "tuple") hgt ht (by decide +kernel) rfl) pa_nil)))) pa_nil) hs) (by decide) (by decide) hs hpl) fun σ H Q h => ?_
  refine tE_un (q := fun v H1 Q => (3 ≤ sizeLine ∧ ∀ q, H1 q = none → rIsiTY X.K [v, .ref q] (upd H1 q (.tup [.ty "int", .ty "list", .ty "tuple"])) Q)) (fun G1 H1 v d d' Q s1 p1 eg k => ?_) σ H Q h
  have ns : okTy d = true := by cases d <;> first | rfl | (cases eg; done)
  have eg' : gIsi3 d = some (.bl (isT .int d || (isT .list d || isT .tuple d))) := by cases d <;> first | rfl | (cases ns; done)
  rw [eg'] at eg
  cases eg
  refine ⟨by rw [sizeLine_eq]; decide, fun q hq => ?_⟩
  have gr : Grow G1 H1 (upd G1 q (.tup [.ty "int", .ty "list", .ty "tuple"])) (upd H1 q (.tup [.ty "int", .ty "list", .ty "tuple"])) := Grow.lay s1.sub s1.gnt hq (fun _ z => nomatch z)
  refine ⟨v, q, [.ty "int", .ty "list", .ty "tuple"], .type (tyD d), [.type "int", .type "list", .type "tuple"], _, rfl, upd_same, .cons (.ty _) (.cons (.ty _) (.cons (.ty _) .nil)), by rw [← hK]; exact tyY_of gr.sub (p1.up gr.g) ns, ?_, k _ _ _ gr (.bl _)⟩
  refine kitAny_cons (kit_ty (kit_isT .int d ns)) (fun hb => ?_) (fun hb => by rw [hb]; rfl)
  rw [hb]
  refine kitAny_cons (kit_ty (kit_isT .list d ns)) (fun hb => ?_) (fun hb => by rw [hb]; rfl)
  rw [hb]
  exact kitAny_cons (kit_ty (kit_isT .tuple d ns)) (fun hb2 => by rw [hb2]; exact kitAny_nil) (fun hb2 => by rw [hb2]; rfl)
end
end DL

/-! Methods and classes as the facts tell them; a def that calls itself. -/
namespace DL
open PySem PySem.Spec PyProof.Rows L2 LamX
structure MthF (K : PySem.W.Frag) (c m qual : Str) (st : Stmt) (ps : List Str) : Prop where
  ex : ∃ Ca f fd, glob K c Ca ∧ L2.Cls K Ca ∧ Meth K Ca m f ∧ Fun K m qual st f fd ∧ Binds K fd ps []
structure InitF (K : PySem.W.Frag) (mg : Str → Option Value) (c qual : Str) (st : Stmt) (ps : List Str) : Prop where
  ex : ∃ Ca f fd, glob K c Ca ∧ mg c = some (.ref Ca) ∧ Mk K Ca f ∧ Fun K "__init__" qual st f fd ∧ Binds K fd ps []
section
variable {P : Program} {w : World} {K : PySem.W.Frag} {mg : Str → Option Value} {base : Heap} {cls : Str → Addr}
theorem mtF1 {c m qual : Str} {st : Stmt} (N ps : List Str) (M : MS) (n j k : Nat) (hn : ps.length = n) (hj : N.length - ps.length = j) (d : MthF K c m qual st ps) (S : FnScope N ps (defScope st))
    (hbody : ∀ (f : Addr) (cdv : Value) (A : Around) (outer : List Env) (s : Shared) (H G : Hp) (E : XK), Room k (A.deeper (envOfC qual (defScope st) s.heap.objs.size f cdv)) →
      PSs (cxOf (L2.CX P w) P w K mg base N qual (defScope st) f cdv A outer s H E) (defBody st) (tS (fc0 K cls G H) E M)) :
    MtD P w K mg base (k + 1) c m (spF K cls (runF M n j)) := by
  subst hn hj
  obtain ⟨Ca, f, fd, g, cl, mt, F, b⟩ := d.ex
  exact ⟨Ca, f, fd, ps, g, cl, mt, fnF F S (hbody f), b⟩
theorem mkN1 {c qual : Str} {st : Stmt} (N ps : List Str) (M : MS) (n j k : Nat) (hn : ps.length = n) (hj : N.length - ps.length = j) (d : InitF K mg c qual st ps) (S : FnScope N ps (defScope st))
    (hbody : ∀ (f : Addr) (cdv : Value) (A : Around) (outer : List Env) (s : Shared) (H G : Hp) (E : XK) (a : Addr), Room k (A.deeper (envOfC qual (defScope st) s.heap.objs.size f cdv)) →
      PSs (cxOf (L2.CX P w) P w K mg base N qual (defScope st) f cdv A outer s H E) (defBody st) (tS (fcQ K cls G H a) E M)) :
    MkD P w K mg base (k + 1) c (spN K cls c (runI c M n j)) := by
  obtain ⟨Ca, f, fd, g, m, mk, F, b⟩ := d.ex
  exact mkN N ps M n j k hn hj g m mk F b S (hbody f)
theorem clsF_mk {c : Str} {Ca : Addr} (a : PySem.W.nsIn K mainGlobals c = some (some (.ref Ca))) (h1 : PySem.W.plainGet K Ca Str.empty = true) (h2 : PySem.W.hasDictIn K Ca = true) (h3 : PySem.W.plainOver K Ca = true)
    (h4 : PySem.W.findIn K (.ref Ca) "__setattr__" = some (some (.builtin "object.__setattr__"))) : ClsF K c := ⟨Ca, a, ⟨h1, h2, h3, h4⟩⟩
theorem noF_mk {c f : Str} {Ca : Addr} (a : PySem.W.nsIn K mainGlobals c = some (some (.ref Ca))) (h : PySem.W.findIn K (.ref Ca) f = some none) : NoF K c f := ⟨Ca, a, h⟩
theorem mthF_mk {c m qual : Str} {st : Stmt} {ps : List Str} {Ca f : Addr} {oc : Value} {od an : Option Addr} {osl : Array (Option Value)} {kV doc pm cdv ct : Value} (a : PySem.W.nsIn K mainGlobals c = some (some (.ref Ca))) (h1 : PySem.W.plainGet K Ca Str.empty = true) (h2 : PySem.W.hasDictIn K Ca = true) (h3 : PySem.W.plainOver K Ca = true)
    (h4 : PySem.W.findIn K (.ref Ca) "__setattr__" = some (some (.builtin "object.__setattr__"))) (at_ : PySem.W.findIn K (.ref Ca) m = some (some (.ref f))) (fn : PySem.W.isFn K (.ref f) = true)
    (l : K.lookup f = some ⟨oc, od, .func (PySem.W.fnOf m qual (defArgs st) (defBody st) (defScope st) .none kV doc pm an cdv ct), osl⟩) (cd : PySem.W.codeIn K cdv qual = true) (k : PySem.W.keepIn K (.ref f) = true)
    (b : ∀ (kV doc pm : Value) (an : Option Addr) (cdv ct : Value) (us : List Value), us.length = ps.length → bindArgs (PySem.W.fnOf m qual (defArgs st) (defBody st) (defScope st) .none kV doc pm an cdv ct) ⟨us, []⟩ = pure (ps.zip us)) : MthF K c m qual st ps :=
  ⟨Ca, f, _, a, ⟨h1, h2, h3, h4⟩, ⟨at_, fn, k⟩, fun_mk (st := st) l cd k, (fun_mk (st := st) l cd k).binds b⟩
theorem initF_mk {h : Heap} {c qual : Str} {st : Stmt} {ps : List Str} {Ca f : Addr} {oc : Value} {od an : Option Addr} {osl : Array (Option Value)} {kV doc pm cdv ct : Value} (X : K.In h) (G : h.Ns mainGlobals mg) (a : PySem.W.nsIn K mainGlobals c = some (some (.ref Ca))) (mk : PySem.W.makesIn K Ca = true)
    (at_ : PySem.W.findIn K (.ref Ca) "__init__" = some (some (.ref f))) (fn : PySem.W.isFn K (.ref f) = true) (kc : PySem.W.keepIn K (.ref Ca) = true)
    (l : K.lookup f = some ⟨oc, od, .func (PySem.W.fnOf "__init__" qual (defArgs st) (defBody st) (defScope st) .none kV doc pm an cdv ct), osl⟩) (cd : PySem.W.codeIn K cdv qual = true) (k : PySem.W.keepIn K (.ref f) = true)
    (b : ∀ (kV doc pm : Value) (an : Option Addr) (cdv ct : Value) (us : List Value), us.length = ps.length → bindArgs (PySem.W.fnOf "__init__" qual (defArgs st) (defBody st) (defScope st) .none kV doc pm an cdv ct) ⟨us, []⟩ = pure (ps.zip us)) : InitF K mg c qual st ps :=
  ⟨Ca, f, _, a, PySem.W.mg_of X G a, ⟨mk, at_, fn, kc⟩, fun_mk (st := st) l cd k, (fun_mk (st := st) l cd k).binds b⟩
end
theorem s_bad {X : Cx} {C : Fc} {E : XK} {l : List Stmt} : PSs X l (tS C E (fun _ => .bad)) := ⟨fun _ _ _ _ _ _ h => by
  obtain ⟨_, _, _, _, k⟩ := h
  exact k.elim⟩
end DL

/-! Operators and walks that look at the data: +, in, [..], for. -/
namespace DL
open PySem PySem.Spec PyProof.Rows L2 LamX
section
variable {X : Cx} {C : Fc} {E : XK} {pos : Pos}
theorem op_or {op : Value → Value → Sem Value} {r r' : R2} (h : OpR X op r) (h' : OpR X op r') : OpR X op (fun x y H Q => r x y H Q ∨ r' x y H Q) := by
  intro pins s σ H x y u v Q I rx ry q
  rcases q with q | q
  · exact h pins s σ H x y u v Q I rx ry q
  · exact h' pins s σ H x y u v Q I rx ry q
/-! ### + -/
def gAdd (x y : D) : Option D := match x, y with
  | .int i, .int j => some (.int (i + j))
  | .lst a, .lst b => if a.length + b.length ≤ 16777216 then some (.lst (a ++ b)) else none
  | .tup a, .tup b => if a.length + b.length ≤ 16777216 then some (.tup (a ++ b)) else none
  | .str a, .str b => if a.length + b.length ≤ 16777216 then some (.str (a ++ b)) else none
  | _, _ => none
def rAdd (K : PySem.W.Frag) : R2 := fun x y H Q => ((rI0 fun i j => .int (i + j)) x y H Q ∨ rCat x y H Q) ∨ (rCatA K x y H Q ∨ ∃ i j, x = .str i ∧ y = .str j ∧ i.length + j.length ≤ sizeLine ∧ Q (.str (i ++ j)) H)
theorem op_addG : OpR X (binaryOp .Add) (rAdd X.K) := op_or (op_or op_add op_cat) (op_or op_catA op_add_str)
theorem d_addG : OpD C (rAdd C.K) gAdd := by
  intro G H v1 v2 d1 d2 d Q s h1 h2 e k
  cases d1 <;> first | (cases e; done) | skip
  · cases d2 <;> first | (cases e; done) | skip
    exact .inl (.inl (d_add G H v1 v2 _ _ d Q s h1 h2 e k))
  · cases d2 <;> first | (cases e; done) | skip
    rename_i a b
    unfold gAdd at e
    simp only at e
    split at e
    · rename_i hl
      cases e
      cases h1; cases h2
      exact .inr (.inr ⟨a, b, rfl, rfl, by rw [sizeLine_eq]; exact hl, k _ G H (Grow.refl s) (.str _)⟩)
    · cases e
  · cases d2 <;> first | (cases e; done) | skip
    rename_i a b
    unfold gAdd at e
    simp only at e
    split at e
    · rename_i hl
      cases e
      cases h1 with
      | tup a1 a2 =>
        cases h2 with
        | tup b1 b2 =>
          refine .inr (.inl ⟨_, _, _, _, rfl, rfl, SqT.of (s.sub _ _ a1), SqT.of (s.sub _ _ b1), by rw [a2.length, b2.length, sizeLine_eq]; exact hl, fun z => ?_, fun _ z => ?_, fun _ _ p hp => ?_⟩)
          · subst z
            cases a2
            exact k _ G H (Grow.refl s) (.tup b1 b2)
          · subst z
            cases b2
            rw [List.append_nil] at k
            exact k _ G H (Grow.refl s) (.tup a1 a2)
          · exact k _ _ _ (Grow.lay s.sub s.gnt hp (fun _ z => nomatch z)) (.tup upd_same ((a2.append b2).up (same_upd (s.sub.free hp))))
    · cases e
  · cases d2 <;> first | (cases e; done) | skip
    exact .inl (.inr (d_cat G H v1 v2 _ _ d Q s h1 h2 e k))
/-! ### * -/
def gMul (x y : D) : Option D := match x with
  | .lst a => lRep (.lst a) y
  | x => iMul x y
/-! ### in -/
def gInG (y x : D) : Option D := match x with
  | .dct t es => gDIn y (.dct t es)
  | .str s => sIn y (.str s)
  | x => gIn y x
def gNotInG (y x : D) : Option D := match x with
  | .dct t es => gDNotIn y (.dct t es)
  | .str s => sNotIn y (.str s)
  | x => gNotIn y x
def rInG (K : PySem.W.Frag) : R2 := fun y x H Q => (∃ a o, x = .ref a ∧ DGet H a y o ∧ Q (.bl o.isSome) H) ∨ ((∃ i j, y = .str i ∧ x = .str j ∧ Q (.bl (!(Builtin.Str.occurrences j i 0 j.length 1).isEmpty)) H) ∨ rInE K false y x H Q)
def rNotInG (K : PySem.W.Frag) : R2 := fun y x H Q => (∃ a o, x = .ref a ∧ DGet H a y o ∧ Q (.bl (!o.isSome)) H) ∨ ((∃ i j, y = .str i ∧ x = .str j ∧ Q (.bl (!(!(Builtin.Str.occurrences j i 0 j.length 1).isEmpty))) H) ∨ rInE K true y x H Q)
theorem op_inG (hu : X.A.units + 65 < cLine) : OpR X (compareOp .In) (rInG X.K) := op_or (op_dinD (by omega)) (op_or op_in_str (op_inE hu))
theorem op_notInG (hu : X.A.units + 65 < cLine) : OpR X (compareOp .NotIn) (rNotInG X.K) := op_or (op_dnotInD (by omega)) (op_or op_notin_str (op_notInE hu))
theorem d_inG : OpD C (rInG C.K) gInG := by
  intro G H v1 v2 d1 d2 d Q s h1 h2 e k
  cases d2 with
  | dct t es => exact .inl (d_din G H v1 v2 d1 _ d Q s h1 h2 e k)
  | str z => exact .inr (.inl (d_ins G H v1 v2 d1 _ d Q s h1 h2 e k))
  | _ => exact .inr (.inr (d_in G H v1 v2 d1 _ d Q s h1 h2 e k))
theorem d_notInG : OpD C (rNotInG C.K) gNotInG := by
  intro G H v1 v2 d1 d2 d Q s h1 h2 e k
  cases d2 with
  | dct t es => exact .inl (d_dnotIn G H v1 v2 d1 _ d Q s h1 h2 e k)
  | str z => exact .inr (.inl (d_notins G H v1 v2 d1 _ d Q s h1 h2 e k))
  | _ => exact .inr (.inr (d_notIn G H v1 v2 d1 _ d Q s h1 h2 e k))
/-! ### x[y] -/
def gSub (x y : D) : Option D := match x with
  | .dct t es => gDGet (.dct t es) y
  | x => gIx x y
theorem e_sub {a b : Expr} {ma mb : ME} (hu : X.A.units + 1 < cLine) (ha : PE X a (tE C E ma)) (hb : PE X b (tE C E mb)) (hK : C.K = X.K := by rfl) (hs : PlainIx b := by exact fun _ _ => rfl) (hn : NoSl b := by exact fun _ _ => rfl) : PE X (.Subscript a b pos) (tE C E (mOp gSub ma mb)) := by
  refine ⟨fun pins s σ H Q I h => ?_⟩
  obtain ⟨r, ad, G, st, k⟩ := h
  have go : ∀ g : D → D → Option D, (∀ x r1, ma r = .ok x r1 → ∀ y, gSub x y = g x y) → mOp gSub ma mb r = mOp g ma mb r := by
    intro g hg
    unfold mOp bindE
    cases e : ma r with
    | ok x r1 => simp only [hg x r1 e]
    | _ => rfl
  by_cases hd : ∃ t es r1, ma r = .ok (.dct t es) r1
  · obtain ⟨t, es, r1, e⟩ := hd
    rw [go gDGet (fun x r2 e2 y => by rw [e] at e2; cases e2; rfl)] at k
    exact (e_dgetF hu ha hb hn).run pins s σ H Q I ⟨r, ad, G, st, k⟩
  · rw [go gIx (fun x r2 e2 y => by
      cases x <;> first | rfl | exact absurd ⟨_, _, _, e2⟩ hd)] at k
    have hix : PE X (.Subscript a b pos) (tE C E (mOp gIx ma mb)) := by
      have q := d_ix (C := C)
      rw [hK] at q
      exact e_ix ix_seq q ha hb hs
    exact hix.run pins s σ H Q I ⟨r, ad, G, st, k⟩
/-! ### for x in y -/
def iterD (d : D) : Option (List D) := match d with
  | .lst l => some l
  | .tup l => some l
  | .cst l => some l
  | .dct _ es => some (es.map (·.1))
  | .str z => some (signD z)
  | _ => none
def mIter (m : ME) : MA := fun r => match m r with
  | .ok d r1 => (match iterD d with
    | some l => .ok l r1
    | none => .bad)
  | .exc c fs => .exc c fs
  | .bad => .bad
theorem i_any {tg e : Expr} {m : ME} (h : PE X e (tE C E m)) (hK : C.K = X.K := by rfl) : PI X tg e (tI C E (mIter m)) := by
  refine ⟨fun pins s σ H R I hh => ?_⟩
  obtain ⟨r, ad, G, st, k⟩ := hh
  cases e1 : m r with
  | bad => unfold mIter at k; rw [e1] at k; exact k.elim
  | exc c fs =>
    refine (i_seq h hK).run pins s σ H R I ⟨r, ad, G, st, ?_⟩
    unfold mIter at k; unfold mSeq
    rw [e1] at k ⊢
    exact k
  | ok d r1 =>
    unfold mIter at k
    rw [e1] at k
    simp only at k
    cases d with
    | lst l => refine (i_seq h hK).run pins s σ H R I ⟨r, ad, G, st, ?_⟩; unfold mSeq; rw [e1]; exact k
    | tup l => refine (i_seq h hK).run pins s σ H R I ⟨r, ad, G, st, ?_⟩; unfold mSeq; rw [e1]; exact k
    | cst l => refine (i_seq h hK).run pins s σ H R I ⟨r, ad, G, st, ?_⟩; unfold mSeq; rw [e1]; exact k
    | dct t es => refine (i_keys h).run pins s σ H R I ⟨r, ad, G, st, ?_⟩; unfold mKeys; rw [e1]; exact k
    | str z => refine (i_str h).run pins s σ H R I ⟨r, ad, G, st, ?_⟩; unfold mSigns; rw [e1]; exact k
    | _ => exact k.elim
end
end DL

/-! Tuples of constants within a tuple of constants; len of an own list; a test whether a key lies in an own dict. -/
namespace DL
open PySem PySem.Spec PyProof.Rows L2 LamX
section
variable {K : PySem.W.Frag}
theorem cst_in {G : Hp} {a : Addr} {o : Obj} {its : List Value} {n : Nat} {xs : List V} {ds : List D} (l : K.lookup a = some o) (hc : o.cls = .type "tuple")
    (hs : o.data = .seq its.toArray n) (r : Vals xs its) (p : RpL K G xs ds) (hl : its.length ≤ 1000) : Rp K G (.ref a) (.cst ds) :=
  .cst (.inr ⟨o, its.toArray, n, l, hc, hs, by rw [List.size_toArray, sizeLine_eq]; omega, by simpa using r⟩) p
end
section
variable {X : Cx} {C : Fc} {E : XK} {pos : Pos}
def mLenO (i : Nat) : ME := fun r => match r[i]? with
  | some (.own _ l) => .ok (.int l.length) r
  | _ => .bad
theorem e_lenO {i : Nat} {x : Str} {p p2 : Pos} (hm : X.mg "len" = none) (hK : C.K = X.K := by rfl) (hN : X.N[i]? = some x := by rfl) (hv : Vis X.env.scope x := by first | exact Or.inl rfl | exact Or.inr (Or.inl rfl) | exact Or.inr (Or.inr rfl))
    (hd : (x == ("__debug__" : Str)) = false := by decide) (hcd : (x == ("__classdict__" : Str)) = false := by decide) (hg : Gl X "len" := by rfl)
    (he : starEach [.Name x p2] X.env = (false, eval (.Name x p2) X.env) :: starEach [] X.env := by rfl) (hpl : (backTo pos (starEach [] X.env)).any (·.1) = false := by rfl) :
    PE X (.Call (.Name "len" p) [.Name x p2] [] pos) (tE C E (mLenO i)) := by
  refine PE.imp (pe_callB call_len_seq hg hm (by decide +kernel) (pa_cons (pe_var hN hv hd hcd) pa_nil he) (by decide) (by decide) he hpl) fun σ H Q ⟨r, ad, G, s, k⟩ => ?_
  unfold kE mLenO at k
  cases er : r[i]? with
  | none => simp only [er] at k
  | some q =>
    simp only [er] at k
    cases q with
    | own kk l =>
      simp only at k
      obtain ⟨y1, _, _, ys, y4, y5⟩ := s.own i kk l er
      refine ⟨_, y1, _, ys, rfl, .inl (.inl (.inl y4)), ?_⟩
      rw [y5.length]
      exact k _ G H s (Kp.refl _ _ _ _ _) (.int _)
    | _ => exact k.elim
theorem t_dinO {i : Nat} {x : Str} {e : Expr} {mk : ME} {p : Pos} (hu : X.A.units + 1 < cLine) (he : PE X e (tE C E mk)) (hN : X.N[i]? = some x := by rfl) (hv : Vis X.env.scope x := by first | exact Or.inl rfl | exact Or.inr (Or.inl rfl) | exact Or.inr (Or.inr rfl))
    (hd : (x == ("__debug__" : Str)) = false := by decide) (hcd : (x == ("__classdict__" : Str)) = false := by decide) (hm : behindInMarks .In (.Name x p) = false := by first | exact nomark _ | rfl) : PT X (.Compare e [.In] [.Name x p] pos) (tT C E (mDInO true i mk)) := by
  refine PT.imp (pt_cmpR (op_dinD hu) he (pe_var hN hv hd hcd) hm) fun σ H Q h => ?_
  refine tE_mono (fun y H1 q => ?_) (tE_dinO (tT_of h))
  obtain ⟨v, hv, a, o, e1, g, q⟩ := q
  exact ⟨v, hv, a, o, e1, g, by simpa using q⟩
theorem t_dnotInO {i : Nat} {x : Str} {e : Expr} {mk : ME} {p : Pos} (hu : X.A.units + 1 < cLine) (he : PE X e (tE C E mk)) (hN : X.N[i]? = some x := by rfl) (hv : Vis X.env.scope x := by first | exact Or.inl rfl | exact Or.inr (Or.inl rfl) | exact Or.inr (Or.inr rfl))
    (hd : (x == ("__debug__" : Str)) = false := by decide) (hcd : (x == ("__classdict__" : Str)) = false := by decide) (hm : behindInMarks .NotIn (.Name x p) = false := by first | exact nomark _ | rfl) : PT X (.Compare e [.NotIn] [.Name x p] pos) (tT C E (mDInO false i mk)) := by
  refine PT.imp (pt_cmpR (op_dnotInD hu) he (pe_var hN hv hd hcd) hm) fun σ H Q h => ?_
  refine tE_mono (fun y H1 q => ?_) (tE_dinO (tT_of h))
  obtain ⟨v, hv, a, o, e1, g, q⟩ := q
  exact ⟨v, hv, a, o, e1, g, by simpa using q⟩
end
end DL

/-! Evaluation rules for the plain law: loops, comprehensions, calls, dicts, sorting. -/
namespace DL
open PySem PySem.Spec PyProof.Rows L2
section
variable {r : DEnv} {i j k : Nat}
@[simp] theorem ev_sFor {it : MA} {g : GD} {b : MS} : sFor it g b r = match it r with
  | .ok l r1 => forL g b l r1
  | .exc c fs => .exc c fs
  | .bad => .bad := rfl
@[simp] theorem ev_mIter {m : ME} : mIter m r = match m r with
  | .ok d r1 => (match iterD d with
    | some l => .ok l r1
    | none => .bad)
  | .exc c fs => .exc c fs
  | .bad => .bad := rfl
@[simp] theorem ev_iter_l {l : List D} : iterD (.lst l) = some l := rfl
@[simp] theorem ev_iter_t {l : List D} : iterD (.tup l) = some l := rfl
@[simp] theorem ev_iter_c {l : List D} : iterD (.cst l) = some l := rfl
@[simp] theorem ev_iter_d {t : Bool} {l : List (D × D)} : iterD (.dct t l) = some (l.map (·.1)) := rfl
@[simp] theorem ev_mFrz {m : MA} : mFrz m r = match m r with
  | .ok l r1 => .ok (.lst l) r1
  | .exc c fs => .exc c fs
  | .bad => .bad := rfl
@[simp] theorem ev_mCall {F : List D → FR} {a : MA} : mCall F a r = match a r with
  | .ok ds r1 => (match F ds with
    | .ok d => .ok d r1
    | .own l => .ok (.lst l) r1
    | .exc c fs => .exc c fs
    | .bad => .bad)
  | .exc c fs => .exc c fs
  | .bad => .bad := rfl
@[simp] theorem ev_mMeth {c m : Str} {F : List D → FR} {o : ME} {a : MA} : mMeth c m F o a r = match o r with
  | .ok x r0 => if isObj c m x then (match a r0 with
    | .ok ds r1 => (match F (x :: ds) with
      | .ok d => .ok d r1
      | .own l => .ok (.lst l) r1
      | .exc c fs => .exc c fs
      | .bad => .bad)
    | .exc c fs => .exc c fs
    | .bad => .bad) else .bad
  | .exc c fs => .exc c fs
  | .bad => .bad := rfl
@[simp] theorem ev_sAsgT {g : GD} {a : ME} : sAsgT g a r = match a r with
  | .ok d r1 => (match g d r1 with
    | some r2 => .nx r2
    | none => .bad)
  | .exc x fs => .exc x fs
  | .bad => .bad := rfl
@[simp] theorem ev_gN {d : D} : gN i d r = some (r.set i (.dat d)) := rfl
@[simp] theorem ev_gsNil : gsNil [] r = some r := rfl
@[simp] theorem ev_gsCons {g : GD} {gs : List D → DEnv → Option DEnv} {d : D} {l : List D} : gsCons g gs (d :: l) r = (g d r).bind fun r1 => gs l r1 := rfl
@[simp] theorem ev_gTup2_t {n : Nat} {gs : List D → DEnv → Option DEnv} {l : List D} : gTup2 n gs (.tup l) r = if l.length = n then gs l r else none := rfl
@[simp] theorem ev_gTup2_l {n : Nat} {gs : List D → DEnv → Option DEnv} {l : List D} : gTup2 n gs (.lst l) r = if l.length = n then gs l r else none := rfl
@[simp] theorem ev_gTup2_c {n : Nat} {gs : List D → DEnv → Option DEnv} {l : List D} : gTup2 n gs (.cst l) r = if l.length = n then gs l r else none := rfl
@[simp] theorem ev_mYes : mYes r = .ok (.bl true) r := rfl
@[simp] theorem ev_gSub_l {l : List D} {x : D} : gSub (.lst l) x = gIx (.lst l) x := rfl
@[simp] theorem ev_gSub_t {l : List D} {x : D} : gSub (.tup l) x = gIx (.tup l) x := rfl
@[simp] theorem ev_gSub_c {l : List D} {x : D} : gSub (.cst l) x = gIx (.cst l) x := rfl
@[simp] theorem ev_gSub_s {l : List Int} {x : D} : gSub (.scr l) x = gIx (.scr l) x := rfl
@[simp] theorem ev_gSub_d {t : Bool} {l : List (D × D)} {x : D} : gSub (.dct t l) x = gDGet (.dct t l) x := rfl
@[simp] theorem ev_gAdd_i {i j : Int} : gAdd (.int i) (.int j) = some (.int (i + j)) := rfl
@[simp] theorem ev_gAdd_l {a b : List D} : gAdd (.lst a) (.lst b) = if a.length + b.length ≤ 16777216 then some (.lst (a ++ b)) else none := rfl
@[simp] theorem ev_gAdd_t {a b : List D} : gAdd (.tup a) (.tup b) = if a.length + b.length ≤ 16777216 then some (.tup (a ++ b)) else none := rfl
@[simp] theorem ev_wipe0 : wipeR r [] = r := rfl
@[simp] theorem ev_wipe1 {v : Nat} {vs : List Nat} : wipeR r (v :: vs) = (wipeR r vs).set v .un := rfl
@[simp] theorem ev_gFld {c f c' : Str} {fs : List (Str × D)} : gFld c f (.obj c' fs) = if c' = c then fs.lookup f else none := rfl
end
/-! ### step by step (nothing for the kernel to evaluate) -/
theorem seq_nx {a b : MS} {r r1 : DEnv} {x : SR} (h : a r = .nx r1) (h2 : b r1 = x) : sSeq a b r = x := by
  simp only [sSeq, h, h2]
theorem for_nx {it : MA} {g : GD} {b : MS} {r r1 : DEnv} {l : List D} {x : SR} (h : it r = .ok l r1) (h2 : forL g b l r1 = x) : sFor it g b r = x := by
  simp only [sFor, h, h2]
theorem if_t {c : ME} {a b : MS} {r r1 : DEnv} {x : SR} (h : c r = .ok (.bl true) r1) (h2 : a r1 = x) : sIf c a b r = x := by
  simp only [sIf, h, h2]
theorem if_f {c : ME} {a b : MS} {r r1 : DEnv} {x : SR} (h : c r = .ok (.bl false) r1) (h2 : b r1 = x) : sIf c a b r = x := by
  simp only [sIf, h, h2]
theorem run_rt {M : MS} {n k : Nat} {ds : List D} {d : D} {r r' : DEnv} (hn : ds.length = n) (he : ds.map .dat ++ List.replicate k .un = r) (h : M r = .rt d r') : runF M n k ds = .ok d := by
  simp only [runF, hn, he, h, if_true]
theorem run_rtO {M : MS} {n k : Nat} {ds l : List D} {r r' : DEnv} (hn : ds.length = n) (he : ds.map .dat ++ List.replicate k .un = r) (h : M r = .rtO l r') : runF M n k ds = .own l := by
  simp only [runF, hn, he, h, if_true]
theorem while_t {c : ME} {b : MS} {n : Nat} {r r1 r2 : DEnv} {x : SR} (hc : c r = .ok (.bl true) r1) (hb : b r1 = .nx r2) (h : whileN c b n r2 = x) : whileN c b (n + 1) r = x := by
  simp only [whileN, hc, hb, h]
theorem while_f {c : ME} {b : MS} {n : Nat} {r r1 : DEnv} (hc : c r = .ok (.bl false) r1) : whileN c b (n + 1) r = .nx r1 := by
  simp only [whileN, hc]
theorem asg_ok {i : Nat} {a : ME} {r r1 : DEnv} {d : D} (h : a r = .ok d r1) : sAsg i a r = .nx (r1.set i (.dat d)) := by
  simp only [sAsg, h]
theorem ret_ok {a : ME} {r r1 : DEnv} {d : D} (h : a r = .ok d r1) : sRet a r = .rt d r1 := by
  simp only [sRet, h]
theorem meth_ok {c m : Str} {F : List D → FR} {o : ME} {a : MA} {r r0 r1 : DEnv} {x d : D} {ds : List D} (ho : o r = .ok x r0) (hi : isObj c m x = true) (ha : a r0 = .ok ds r1) (hF : F (x :: ds) = .ok d) : mMeth c m F o a r = .ok d r1 := by
  simp only [mMeth, ho, hi, ha, hF, if_true]
theorem call_ok {F : List D → FR} {a : MA} {r r1 : DEnv} {d : D} {ds : List D} (ha : a r = .ok ds r1) (hF : F ds = .ok d) : mCall F a r = .ok d r1 := by
  simp only [mCall, ha, hF]
theorem frz_ok {m : MA} {r r1 : DEnv} {l : List D} (h : m r = .ok l r1) : mFrz m r = .ok (.lst l) r1 := by
  simp only [mFrz, h]
theorem ags1_ok {g : D → Option D} {a : ME} {r r1 : DEnv} {x d : D} (h : a r = .ok x r1) (hg : g x = some d) : mAgs (b1 g) (aCons a aNil) r = .ok d r1 := by
  simp only [mAgs, aCons, h, aNil, b1, hg, optE]
theorem op_ok {g : D → D → Option D} {a b : ME} {r r1 r2 : DEnv} {x y d : D} (ha : a r = .ok x r1) (hb : b r1 = .ok y r2) (hg : g x y = some d) : mOp g a b r = .ok d r2 := by
  simp only [mOp, ha, bindE, hb, hg, optE]
theorem iter_ok {m : ME} {r r1 : DEnv} {d : D} {l : List D} (h : m r = .ok d r1) (hd : iterD d = some l) : mIter m r = .ok l r1 := by
  simp only [mIter, h, hd]
theorem retO_ok {a : MA} {r r1 : DEnv} {l : List D} (h : a r = .ok l r1) : sRetO a r = .rtO l r1 := by
  simp only [sRetO, h]
theorem meth_own {c m : Str} {F : List D → FR} {o : ME} {a : MA} {r r0 r1 : DEnv} {x : D} {ds l : List D} (ho : o r = .ok x r0) (hi : isObj c m x = true) (ha : a r0 = .ok ds r1) (hF : F (x :: ds) = .own l) : mMeth c m F o a r = .ok (.lst l) r1 := by
  simp only [mMeth, ho, hi, ha, hF, if_true]
theorem methO_own {c m : Str} {F : List D → FR} {o : ME} {a : MA} {r r0 r1 : DEnv} {x : D} {ds l : List D} (ho : o r = .ok x r0) (hi : isObj c m x = true) (ha : a r0 = .ok ds r1) (hF : F (x :: ds) = .own l) : mMethO c m F o a r = .ok l r1 := by
  simp only [mMethO, ho, hi, ha, hF, if_true]
/-! ### for, with what holds before each turn -/
theorem forL_inv {g : GD} {b : MS} (Iv : Nat → DEnv → Prop) : ∀ (l : List D) (k : Nat) (r : DEnv), Iv k r →
    (∀ i d r, l[i]? = some d → Iv (k + i) r → ∃ r1 r2, g d r = some r1 ∧ b r1 = .nx r2 ∧ Iv (k + i + 1) r2) → ∃ r', forL g b l r = .nx r' ∧ Iv (k + l.length) r'
  | [], k, r, h, _ => ⟨r, rfl, h⟩
  | d :: l, k, r, h, hs => by
    obtain ⟨r1, r2, e1, e2, h2⟩ := hs 0 d r rfl h
    obtain ⟨r', e3, h3⟩ := forL_inv Iv l (k + 1) r2 h2 fun i d' r h1 h4 => by
      have q := hs (i + 1) d' r h1 (by rw [show k + (i + 1) = k + 1 + i by omega]; exact h4)
      rw [show k + (i + 1) = k + 1 + i by omega] at q
      exact q
    refine ⟨r', ?_, by rw [List.length_cons, ← Nat.add_assoc, Nat.add_right_comm]; exact h3⟩
    simp only [forL, e1, e2]
    exact e3
/-- a loop that folds -/
theorem forL_fold {α : Type} {g : GD} {b : MS} (en : α → DEnv) (st : α → D → α) : ∀ (l : List D) (a : α),
    (∀ a, ∀ d ∈ l, ∃ r1, g d (en a) = some r1 ∧ b r1 = .nx (en (st a d))) → forL g b l (en a) = .nx (en (l.foldl st a))
  | [], a, _ => rfl
  | d :: l, a, h => by
    obtain ⟨r1, e1, e2⟩ := h a d (by simp)
    simp only [forL, e1, e2, List.foldl_cons]
    exact forL_fold en st l _ fun a d hd => h a d (by simp [hd])
/-! ### comprehensions -/
theorem lcL_fm {g : GD} {c e : ME} {vs : List Nat} {r0 : DEnv} (f : D → Option D) : ∀ (l : List D),
    (∀ d ∈ l, ∃ r1, g d r0 = some r1 ∧ wipeR r1 vs = r0 ∧ match f d with
      | some x => c r1 = .ok (.bl true) r1 ∧ e r1 = .ok x r1
      | none => c r1 = .ok (.bl false) r1) → lcL g c e vs l r0 = .ok (l.filterMap f) r0
  | [], _ => rfl
  | d :: l, h => by
    obtain ⟨r1, e1, e2, e3⟩ := h d (by simp)
    have ih := lcL_fm f l fun d hd => h d (by simp [hd])
    cases ef : f d with
    | none =>
      rw [ef] at e3
      simp only at e3
      simp only [lcL, e1, e3, e2, ih, List.filterMap_cons, ef]
    | some x =>
      rw [ef] at e3
      simp only at e3
      simp only [lcL, e1, e3.1, e3.2, e2, ih, List.filterMap_cons, ef]
theorem mLc_fm {it : MA} {g : GD} {c e : ME} {vs : List Nat} {r r0 : DEnv} {l : List D} (f : D → Option D) (hi : it r = .ok l r) (h0 : wipeR r vs = r0) (hl : l.length ≤ 16777216)
    (h : ∀ d ∈ l, ∃ r1, g d r0 = some r1 ∧ wipeR r1 vs = r0 ∧ match f d with
      | some x => c r1 = .ok (.bl true) r1 ∧ e r1 = .ok x r1
      | none => c r1 = .ok (.bl false) r1) : mLc it g c e vs r = .ok (l.filterMap f) r0 := by
  have : (l.filterMap f).length ≤ 16777216 := Nat.le_trans (List.length_filterMap_le _ _) hl
  simp only [mLc, hi, h0, lcL_fm f l h, short, this, decide_true, if_true]
/-- [e(x) for x in l if c(x)] where l bears other data -/
theorem mLc_map {α : Type} {it : MA} {g : GD} {c e : ME} {vs : List Nat} {r r0 : DEnv} {l : List α} (en : α → D) (p : α → Bool) (v : α → D) (hi : it r = .ok (l.map en) r) (h0 : wipeR r vs = r0) (hl : l.length ≤ 16777216)
    (h : ∀ x ∈ l, ∃ r1, g (en x) r0 = some r1 ∧ wipeR r1 vs = r0 ∧ c r1 = .ok (.bl (p x)) r1 ∧ (p x = true → e r1 = .ok (v x) r1)) : mLc it g c e vs r = .ok ((l.filter p).map v) r0 := by
  have key : ∀ l : List α, (∀ x ∈ l, ∃ r1, g (en x) r0 = some r1 ∧ wipeR r1 vs = r0 ∧ c r1 = .ok (.bl (p x)) r1 ∧ (p x = true → e r1 = .ok (v x) r1)) → lcL g c e vs (l.map en) r0 = .ok ((l.filter p).map v) r0 := by
    intro l
    induction l with
    | nil => intro _; rfl
    | cons x l ih =>
      intro h
      obtain ⟨r1, e1, e2, e3, e4⟩ := h x (by simp)
      have ih := ih fun x hx => h x (by simp [hx])
      cases ep : p x with
      | true =>
        have e5 := e4 ep
        rw [ep] at e3
        simp only [List.map_cons, lcL, e1, e3, e5, e2, ih, List.filter_cons, ep, if_true]
      | false =>
        rw [ep] at e3
        simp only [List.map_cons, lcL, e1, e3, e2, ih, List.filter_cons, ep, Bool.false_eq_true, if_false]
  have l2 : ((l.filter p).map v).length ≤ 16777216 := by
    rw [List.length_map]
    exact Nat.le_trans (List.length_filter_le _ _) hl
  simp only [mLc, hi, h0, key l h, short, l2, decide_true, if_true]
theorem mLc_all {α : Type} {it : MA} {g : GD} {c e : ME} {vs : List Nat} {r r0 : DEnv} {l : List α} (en : α → D) (v : α → D) (hi : it r = .ok (l.map en) r) (h0 : wipeR r vs = r0) (hl : l.length ≤ 16777216)
    (h : ∀ x ∈ l, ∃ r1, g (en x) r0 = some r1 ∧ wipeR r1 vs = r0 ∧ c r1 = .ok (.bl true) r1 ∧ e r1 = .ok (v x) r1) : mLc it g c e vs r = .ok (l.map v) r0 := by
  have := mLc_map (l := l) en (fun _ => true) v hi h0 hl fun x hx => by
    obtain ⟨r1, a, b, c, d⟩ := h x hx
    exact ⟨r1, a, b, c, fun _ => d⟩
  rw [List.filter_eq_self.mpr (by simp)] at this
  exact this
/-! ### enumerate -/
def enumF : Int → List D → List D
  | _, [] => []
  | i, d :: l => .tup [.int i, d] :: enumF (i + 1) l
theorem enumD_F (l : List D) : enumD l = enumF 0 l := by
  have : ∀ (l : List D) (k : Nat), l.mapIdx (fun i d => D.tup [.int ((i + k : Nat) : Int), d]) = enumF k l := by
    intro l
    induction l with
    | nil => intro k; rfl
    | cons d l ih =>
      intro k
      rw [List.mapIdx_cons, enumF]
      have := ih (k + 1)
      congr 1
      · simp
      · simpa [Nat.add_assoc, Nat.add_comm, Nat.add_left_comm] using this
  unfold enumD
  simpa using this l 0
/-! ### ints in a list or tuple -/
@[simp] theorem eqB_int {i j : Int} : eqB (.int i) (.int j) = (i == j) := rfl
theorem toPs_eq (l : List D) : toPs l = l.map toP := toPs_map l
theorem canAll_map {l : List D} (h : ∀ d ∈ l, (toP d).canLay0 = true) : PyData.canLayAll0 (toPs l) = true := by
  induction l with
  | nil => rfl
  | cons d l ih =>
    simp only [toPs, PyData.canLayAll0, Bool.and_eq_true]
    exact ⟨h d (by simp), ih fun d hd => h d (by simp [hd])⟩
end DL

/-! Dicts with distinct keys, made of pairs or by a comprehension; looked up. -/
namespace DL
open PySem PySem.Spec PyProof.Rows L2
/-- entries of a dict -/
def kd (p : Key × D) : D × D := (keyD p.1, p.2)
def lkp (k : Key) : List (Key × D) → Option D
  | [] => none
  | p :: l => if p.1 = k then some p.2 else lkp k l
theorem lookT_kd (ps : List (Key × D)) (k : Key) : lookT false (ps.map kd) (keyD k) = some (lkp k ps) := by
  simp only [lookT, kD_key, Option.map_some]
  congr 1
  induction ps with
  | nil => rfl
  | cons p l ih =>
    simp only [List.map_cons, dLook, List.find?_cons, kd, isKK_key, lkp]
    by_cases h : p.1 = k
    · simp [h]
    · simp only [h, decide_false, if_false]
      exact ih
theorem any_kd (ps : List (Key × D)) (k : Key) : (ps.map kd).any (fun e => isKK k e.1) = ps.any fun p => decide (p.1 = k) := by
  induction ps with
  | nil => rfl
  | cons p l ih => simp only [List.map_cons, List.any_cons, kd, isKK_key] at ih ⊢; rw [ih]
theorem dPut_new {ps : List (Key × D)} {k : Key} {d : D} (h : k ∉ ps.map (·.1)) : dPut (isKK k) (keyD k) (ps.map kd) d = (ps ++ [(k, d)]).map kd := by
  unfold dPut
  rw [any_kd, if_neg]
  · simp [kd]
  · intro e
    obtain ⟨p, hp, e⟩ := List.any_eq_true.mp e
    exact h (List.mem_map.mpr ⟨p, hp, by simpa using e⟩)
theorem mergeD_nodup : ∀ (ps es : List (Key × D)), ((es ++ ps).map (·.1)).Nodup → mergeD (es.map kd) ps = (es ++ ps).map kd
  | [], es, _ => by simp [mergeD]
  | p :: ps, es, h => by
    have h1 : p.1 ∉ es.map (·.1) := by
      rw [List.map_append, List.nodup_append] at h
      intro hm
      exact h.2.2 _ hm _ (by simp) rfl
    have ih := mergeD_nodup ps (es ++ [p]) (by simpa using h)
    unfold mergeD at ih ⊢
    rw [List.foldl_cons, dPut_new h1]
    simpa using ih
theorem pairsK_map {α : Type} (k : α → Key) (v : α → D) (l : List α) : pairsK (l.map fun x => .tup [keyD (k x), v x]) = some (l.map fun x => (k x, v x)) := by
  induction l with
  | nil => rfl
  | cons x l ih => simp only [List.map_cons, pairsK, pairK, kD_key, Option.map_some, ih]
theorem dictOf_map {α : Type} (k : α → Key) (v : α → D) (l : List α) (h : (l.map k).Nodup) : gDictOf (.lst (l.map fun x => .tup [keyD (k x), v x])) = some (.dct false ((l.map fun x => (k x, v x)).map kd)) := by
  simp only [gDictOf, pairsK_map, Option.map_some]
  have := mergeD_nodup (l.map fun x => (k x, v x)) [] (by simpa [List.map_map, Function.comp_def] using h)
  simp only [List.map_nil, List.nil_append] at this
  rw [this]
theorem lkp_map {α : Type} (k : α → Key) (v : α → D) : ∀ (l : List α) (x : α), (l.map k).Nodup → x ∈ l → lkp (k x) (l.map fun x => (k x, v x)) = some (v x)
  | y :: l, x, h, hx => by
    simp only [List.map_cons, lkp]
    rw [List.map_cons, List.nodup_cons] at h
    rcases List.mem_cons.mp hx with rfl | hx
    · rw [if_pos rfl]
    · rw [if_neg]
      · exact lkp_map k v l x h.2 hx
      · intro e
        exact h.1 (e ▸ List.mem_map.mpr ⟨x, hx, rfl⟩)
/-- {k(x): v(x) for x in l}, the keys distinct -/
theorem mDc_map {α : Type} {it : MA} {g : GD} {c ek ev : ME} {vs : List Nat} {r r0 : DEnv} {l : List α} (en : α → D) (k : α → Key) (v : α → D) (hi : it r = .ok (l.map en) r) (h0 : wipeR r vs = r0) (hl : l.length < 16777216) (hn : (l.map k).Nodup)
    (h : ∀ x ∈ l, ∃ r1, g (en x) r0 = some r1 ∧ wipeR r1 vs = r0 ∧ c r1 = .ok (.bl true) r1 ∧ ek r1 = .ok (keyD (k x)) r1 ∧ ev r1 = .ok (v x) r1) :
    mDc it g c ek ev vs r = .ok (.dct false ((l.map fun x => (k x, v x)).map kd)) r0 := by
  have key : ∀ (l es : List α), (∀ x ∈ l, ∃ r1, g (en x) r0 = some r1 ∧ wipeR r1 vs = r0 ∧ c r1 = .ok (.bl true) r1 ∧ ek r1 = .ok (keyD (k x)) r1 ∧ ev r1 = .ok (v x) r1) → ((es ++ l).map k).Nodup → es.length + l.length < 16777216 →
      dcL g c ek ev vs (l.map en) r0 ((es.map fun x => (k x, v x)).map kd) = some (((es ++ l).map fun x => (k x, v x)).map kd, r0) := by
    intro l
    induction l with
    | nil => intro es _ _ _; simp [dcL]
    | cons x l ih =>
      intro es h hn hlen
      simp only [List.length_cons] at hlen
      obtain ⟨r1, e1, e2, e3, e4, e5⟩ := h x (by simp)
      have ih := ih (es ++ [x]) (fun x hx => h x (by simp [hx])) (by simpa using hn) (by simp; omega)
      have hx : k x ∉ (es.map fun x => (k x, v x)).map (·.1) := by
        rw [List.map_append, List.nodup_append] at hn
        intro hm
        rw [List.map_map] at hm
        exact hn.2.2 _ hm _ (by simp) rfl
      have hl2 : ((es.map fun x => (k x, v x)).map kd).length < 16777216 := by simp; omega
      simp only [List.map_cons, dcL, e1, e3, e4, e5, kD_key, hl2, if_true, e2]
      rw [dPut_new hx]
      simpa using ih
  have := key l [] h (by simpa using hn) (by simpa using hl)
  simp only [List.map_nil, List.nil_append] at this
  simp only [mDc, hi, h0, this]
end DL

/-! Sorting ints. -/
namespace DL
open PySem PySem.Spec PyProof.Rows L2
theorem insD_map {α β : Type} {le : α → α → Bool} {le' : β → β → Bool} {f : α → β} (h : ∀ a b, le' (f a) (f b) = le a b) (x : α) : ∀ l : List α, insD le' (f x) (l.map f) = (insD le x l).map f
  | [] => rfl
  | y :: l => by
    simp only [List.map_cons, insD, h]
    cases le x y
    · simp only [Bool.false_eq_true, if_false, List.map_cons, insD_map h x l]
    · simp
theorem isort_map {α β : Type} {le : α → α → Bool} {le' : β → β → Bool} {f : α → β} (h : ∀ a b, le' (f a) (f b) = le a b) : ∀ l : List α, isort le' (l.map f) = (isort le l).map f
  | [] => rfl
  | x :: l => by simp only [List.map_cons, isort, isort_map h l, insD_map h]
theorem insD_perm {α : Type} {le : α → α → Bool} (x : α) : ∀ l : List α, (insD le x l).Perm (x :: l)
  | [] => .refl _
  | y :: l => by
    unfold insD
    split
    · exact .refl _
    · exact ((insD_perm x l).cons y).trans (.swap x y l)
theorem isort_perm {α : Type} {le : α → α → Bool} : ∀ l : List α, (isort le l).Perm l
  | [] => .refl _
  | x :: l => (insD_perm x _).trans ((isort_perm l).cons x)
def leI (a b : Int) : Bool := decide (a ≤ b)
def srt (l : List Int) : List Int := isort leI l
theorem srt_perm (l : List Int) : (srt l).Perm l := isort_perm l
theorem dl_int (a b : Int) : PySem.W.dataLe false toP (.int a) (.int b) = leI a b := by
  show (!(decide (b < a) || (!decide (a < b) && false))) = decide (a ≤ b)
  by_cases h : a ≤ b
  · simp [h]
  · simp [h]; omega
theorem ins_sorted (x : Int) : ∀ l : List Int, l.Pairwise (· ≤ ·) → (insD leI x l).Pairwise (· ≤ ·)
  | [], _ => by simp [insD]
  | y :: l, h => by
    unfold insD
    rw [List.pairwise_cons] at h
    split
    · rename_i e
      have e : x ≤ y := of_decide_eq_true e
      exact .cons (fun z hz => by
        rcases List.mem_cons.mp hz with rfl | hz
        · exact e
        · have := h.1 z hz; omega) (.cons h.1 h.2)
    · rename_i e
      have e : ¬ x ≤ y := fun q => e (decide_eq_true q)
      refine .cons (fun z hz => ?_) (ins_sorted x l h.2)
      rcases List.mem_cons.mp ((insD_perm x l).mem_iff.mp hz) with rfl | hz
      · omega
      · exact h.1 z hz
theorem srt_sorted : ∀ l : List Int, (srt l).Pairwise (· ≤ ·)
  | [] => .nil
  | x :: l => ins_sorted x _ (srt_sorted l)
theorem sorted_eq {l m : List Int} (p : l.Perm m) (h1 : l.Pairwise (· ≤ ·)) (h2 : m.Pairwise (· ≤ ·)) : l = m :=
  p.eq_of_pairwise (fun a b _ _ x y => by omega) h1 h2
theorem srt_of {l m : List Int} (p : l.Perm m) (h : m.Pairwise (· ≤ ·)) : srt l = m := sorted_eq ((srt_perm l).trans p) (srt_sorted l) h
theorem srt_self {l : List Int} (h : l.Pairwise (· ≤ ·)) : srt l = l := srt_of (.refl _) h
theorem alike_int (x y : Int) : PySem.W.alike (.int x) (.int y) = true := by first | rfl | simp [PySem.W.alike]
theorem ok_ints (l : List Int) (h : l.length ≤ 1000) : okSort ((l.map D.int).map toP) = true := by
  have a : ∀ l : List Int, alikeL ((l.map D.int).map toP) = true := by
    intro l
    induction l with
    | nil => rfl
    | cons x l ih =>
      show (PySem.W.alike (.int x) (.int x) && (((l.map D.int).map toP).all fun e => PySem.W.alike (.int x) e && PySem.W.alike e (.int x)) && alikeL ((l.map D.int).map toP)) = true
      rw [ih, alike_int, Bool.and_true, Bool.true_and, List.all_eq_true]
      intro e he
      simp only [List.map_map, List.mem_map, Function.comp_apply] at he
      obtain ⟨y, _, rfl⟩ := he
      show (PySem.W.alike (.int x) (.int y) && PySem.W.alike (.int y) (.int x)) = true
      rw [alike_int, alike_int]
      rfl
  have b : ((l.map D.int).map toP).all isPlainP = true := by
    rw [List.all_eq_true]
    intro e he
    simp only [List.map_map, List.mem_map, Function.comp_apply] at he
    obtain ⟨y, _, rfl⟩ := he
    rfl
  have c : (((l.map D.int).map toP).all fun d => decide (d.depth ≤ 50) && d.canLay0) = true := by
    rw [List.all_eq_true]
    intro e he
    simp only [List.map_map, List.mem_map, Function.comp_apply] at he
    obtain ⟨y, _, rfl⟩ := he
    rfl
  unfold okSort
  rw [a, b, c]
  simp [h]
theorem sort_l (l : List Int) (h : l.length ≤ 1000) : gSort (.lst (l.map D.int)) = some (.lst ((srt l).map D.int)) := by
  simp only [gSort, ok_ints l h, if_true, sortD0, isort_map dl_int, srt]
theorem sort_t (l : List Int) (h : l.length ≤ 1000) : gSort (.tup (l.map D.int)) = some (.lst ((srt l).map D.int)) := by
  simp only [gSort, ok_ints l h, if_true, sortD0, isort_map dl_int, srt]
end DL

/-! len(set(..)) of ints. -/
namespace DL
open PySem PySem.Spec PyProof.Rows L2
def dd (ns : List Int) : List Int := ns.foldl step_dedup []
theorem firstMet_dd (ns : List Int) : firstMet (fun i => ns.getD i 0) ns.length = dd ns := by
  unfold firstMet dd
  congr 1
  refine List.ext_getElem (by simp) fun i h1 h2 => ?_
  simp at h1
  simp [h1]
theorem dd_fold : ∀ (ns acc : List Int), acc.Nodup → (ns.foldl step_dedup acc).Nodup ∧ ∀ k, k ∈ ns.foldl step_dedup acc ↔ k ∈ acc ∨ k ∈ ns
  | [], acc, h => ⟨h, fun k => by simp⟩
  | n :: ns, acc, h => by
    rw [List.foldl_cons]
    by_cases e : acc.any (· == n) = true
    · have hm : n ∈ acc := by
        obtain ⟨y, hy, q⟩ := List.any_eq_true.mp e
        rw [← eq_of_beq q]; exact hy
      have : step_dedup acc n = acc := if_pos e
      rw [this]
      obtain ⟨a, b⟩ := dd_fold ns acc h
      refine ⟨a, fun k => ?_⟩
      rw [b]
      constructor
      · rintro (z | z)
        · exact .inl z
        · exact .inr (List.mem_cons_of_mem _ z)
      · rintro (z | z)
        · exact .inl z
        · rcases List.mem_cons.mp z with rfl | z
          · exact .inl hm
          · exact .inr z
    · have hm : n ∉ acc := fun z => e (List.any_eq_true.mpr ⟨n, z, beq_self_eq_true _⟩)
      have : step_dedup acc n = acc ++ [n] := if_neg e
      rw [this]
      obtain ⟨a, b⟩ := dd_fold ns (acc ++ [n]) (by
        rw [List.nodup_append]
        exact ⟨h, by simp, fun x hx y hy z => by rw [List.mem_singleton] at hy; rw [hy] at z; exact hm (z ▸ hx)⟩)
      refine ⟨a, fun k => ?_⟩
      rw [b]
      simp [or_assoc]
theorem dd_nodup (ns : List Int) : (dd ns).Nodup := (dd_fold ns [] (by simp)).1
theorem dd_mem {ns : List Int} {k : Int} : k ∈ dd ns ↔ k ∈ ns := by
  have := (dd_fold ns [] (by simp)).2 k
  simpa [dd] using this
theorem dd_len {ns ks : List Int} (h : ks.Nodup) (e : ∀ k, k ∈ ks ↔ k ∈ ns) : ks.length = (dd ns).length :=
  ((List.perm_ext_iff_of_nodup h (dd_nodup ns)).mpr fun k => (e k).trans dd_mem.symm).length_eq
theorem dd_self {ns : List Int} (h : ns.Nodup) : (dd ns).length = ns.length := (dd_len h fun _ => .rfl).symm
theorem ints_vals : ∀ {ns : List Int} {us : List Value}, Vals (ns.map V.int) us → IntsAre us ns
  | [], _, .nil => .nil
  | n :: ns, _, .cons r t => by
    obtain ⟨k, rfl⟩ := r
    exact .cons n k (ints_vals t)
section
variable {X : Cx} {C : Fc} {E : XK} {pos : Pos}
def qLenSet (K : PySem.W.Frag) (x : V) (H1 : Hp) (Q : VK) : Prop := ∃ (l : Addr) (ns : List Int), x = .ref l ∧ (SqL K H1 l (ns.map V.int) ∨ SqT K H1 l (ns.map V.int)) ∧ ns.length ≤ 1000 ∧ Q (.int ((dd ns).length : Nat)) H1
theorem pe_lenSetD {a : Expr} {ta : TE} {p p2 q : Pos} (hg : Gl X "len") (hm : X.mg "len" = none) (hg2 : Gl X "set") (hm2 : X.mg "set" = none) (ha : PE X a ta) (hc : X.calm = true := by rfl)
    (na : starEach [a] X.env = (false, eval a X.env) :: starEach [] X.env := by rfl) : PE X (.Call (.Name "len" p) [.Call (.Name "set" p2) [a] [] q] [] pos) (fun σ H Q => ta σ H fun x H1 => qLenSet X.K x H1 Q) := by
  refine ⟨fun pins s σ H Q I h => ?_⟩
  refine Call_ (ld_blt I hg hm boot_len ?_)
  refine PyProof.Rows.callWith_builtin1 (PyProof.Rows.args_cons ?_ rfl) rfl rfl
  refine Call_ (ld_blt I hg2 hm2 boot_set ?_)
  refine PyProof.Rows.callWith_type1 (PyProof.Rows.args_cons (thn (ha.run pins s σ H _ I h) fun v s1 ⟨x, H1, I1, r1, q1⟩ => PyProof.Rows.args_nil ?_) na) na rfl
  obtain ⟨l, ns, rfl, hq, hl, q1⟩ := q1
  cases r1
  rcases hq with hq | hq
  · obtain ⟨its, r, pl, hz⟩ := I1.list hq
    have hlen : its.toArray.size = ns.length := by rw [List.size_toArray, ← r.length, List.length_map]
    refine call_set_list (I1.ok.hd hc) pl.isList (by simpa using ints_vals r) (by rw [hlen]; unfold scanBound; omega) fun h' tk hS hk => ?_
    refine PyProof.Rows.args_nil ?_
    rw [hlen, firstMet_dd] at hS
    obtain ⟨o, es, ep, t, ho, hex, hd, _, _, _, hf, hn⟩ := hS
    have I2 : Inv X pins σ H1 { s1 with heap := h', toks := tk } := I1.kept fun b o e => hk b o (Heap.lt_size e) e
    have hle : (dd ns).length ≤ ns.length := by
      rw [← firstMet_dd]; exact firstMet_length_le _ _
    exact call_len_set ho hex hd hf (by rw [hn] <;> omega) ⟨.int ((dd ns).length : Nat), H1, I2.tok _, ⟨_, by rw [hn]⟩, q1⟩
  · obtain ⟨its, r, pl, hz⟩ := I1.tuple hq
    refine call_set_tupI ns (I1.ok.hd hc) pl (by simpa using ints_vals r) (by unfold scanBound; omega) fun h' tk c hS hcl hk => ?_
    refine PyProof.Rows.args_nil ?_
    obtain ⟨o, es, ep, t, ho, hex, hd, _, hnd, hmem, _, hf, hn, _, _⟩ := hS
    have I2 : Inv X pins σ H1 { s1 with heap := h', toks := tk } := I1.kept fun b o e => hk b o e
    have hcount : es.size = (dd ns).length := by
      have := dd_len (ns := ns) hnd fun k => by rw [← hmem]; simp
      simpa using this
    exact call_len_set ho hex hd hf (by rw [hn] <;> omega) ⟨.int ((dd ns).length : Nat), H1, I2.tok _, ⟨_, by rw [hcount]⟩, q1⟩
def gLenSet (d : D) : Option D := match d with
  | .lst l => (intsD l).bind fun ns => if ns.length ≤ 1000 then some (.int ((dd ns).length : Nat)) else none
  | .tup l => (intsD l).bind fun ns => if ns.length ≤ 1000 then some (.int ((dd ns).length : Nat)) else none
  | _ => none
theorem d_lenSet {C : Fc} : UnD C (qLenSet C.K) gLenSet := by
  intro G H v d1 d Q s h e k
  cases d1 <;> first | (cases e; done) | skip
  · rename_i l
    simp only [gLenSet] at e
    cases q : intsD l with
    | none => rw [q] at e; cases e
    | some ns =>
      rw [q] at e
      simp only [Option.bind_some] at e
      split at e
      · rename_i hl
        cases e
        cases h with
        | tup hs hp =>
          rw [intsD_rp hp q] at hs
          exact ⟨_, ns, rfl, .inr (SqT.of (s.sub _ _ hs)), hl, k _ G H (Grow.refl s) (.int _)⟩
      · cases e
  · rename_i l
    simp only [gLenSet] at e
    cases q : intsD l with
    | none => rw [q] at e; cases e
    | some ns =>
      rw [q] at e
      simp only [Option.bind_some] at e
      split at e
      · rename_i hl
        cases e
        cases h with
        | lst hs hp =>
          rw [intsD_rp hp q] at hs
          exact ⟨_, ns, rfl, .inl (SqL.of (s.sub _ _ hs)), hl, k _ G H (Grow.refl s) (.int _)⟩
      · cases e
theorem e_lenSet {a : Expr} {m : ME} {p p2 q : Pos} (hm : X.mg "len" = none) (hm2 : X.mg "set" = none) (ha : PE X a (tE C E m)) (hK : C.K = X.K := by rfl) (hg : Gl X "len" := by rfl) (hg2 : Gl X "set" := by rfl) (hc : X.calm = true := by rfl)
    (na : starEach [a] X.env = (false, eval a X.env) :: starEach [] X.env := by rfl) : PE X (.Call (.Name "len" p) [.Call (.Name "set" p2) [a] [] q] [] pos) (tE C E (mUn gLenSet m)) :=
  PE.imp (pe_lenSetD hg hm hg2 hm2 ha hc na) fun σ H Q h => by
    rw [← hK]
    exact tE_un d_lenSet σ H Q h
end
end DL

/-! A dict comprehension whose keys are tuples. -/
namespace DL
open PySem PySem.Spec PyProof.Rows L2
/-- one entry more, by a comprehension -/
theorem dset_tup {X : Cx} {pn : List (Addr × Obj)} {st : L2.St} {H : Hp} {sh : Shared} {EE : Value → Shared → Prop} {dd kb : Addr} {es : List (List Key × V)} {kk : List Key} {x : V} {xu : Value} {QQ : Unit → Shared → Prop} (room : X.A.units + 1 < cLine)
    (I : Inv X pn st H sh) (eD : H dd = some (.dT es)) (eK : H kb = some (.tup (kk.map kV))) (few : es.length < sizeLine) (rx : RelV x xu)
    (fin : ∀ sh', Inv X pn st (upd H dd (.dT (putK es kk x))) sh' → QQ () sh') : wpAny (model X.prog X.w) X.A (dictSet dd (.ref kb) xu) QQ EE sh := by
  obtain ⟨le, nm, ps, rl, dh⟩ := dt_of I.hok eD
  have le2 : ps.length ≤ sizeLine := Paired.length rl ▸ le
  have le3 : (putK es kk x).length ≤ sizeLine := Nat.le_trans (length_putK es kk x) few
  refine wpAny_dictSet_heap (hsz := le2) (show X.A.units < cLine by omega) (key_of I.hok eK) dh fun h2 dh2 sm => fin _ ?_
  obtain ⟨ob, ents, epc, at2, c1, c2, c3, _, c5⟩ := dh2
  have mu : Mut (H dd) := by rw [eD]; trivial
  refine d_write I mu sm ⟨ob, at2⟩ ⟨le3, nm, _, (rl.put kk eK rx).keeps fun c ys ec => ?_, ob, ents, epc, at2, c1, c2, c3, c5⟩
  have far : c ≠ dd := ne_of ec eD fun z => nomatch z
  rw [upd_ne far, ec]
section
variable {X : Cx}
def tDcT (wi : TI) (g : TG) (tt : TT) (tk tv : TE) (vs : List Nat) : TE := fun st H Q => wi st H fun J H1 => ∀ dd, H1 dd = none → ∃ W : Nat → Nat → Hp → Prop, (∃ m, W 0 m (upd H1 dd (.dT []))) ∧ ∀ i m Hi, W i m Hi →
  (J.stop i Hi ∧ Q (.ref dd) Hi) ∨ (J.go i Hi ∧ ∃ Nx : Hp → Prop, (∀ Hn, Nx Hn → ∃ m', m' < m ∧ W (i + 1) m' Hn) ∧ ∀ x Hy, J.yld i Hi x Hy → g x (wipe st vs) Hy fun st2 H2 => wipe st2 vs = wipe st vs ∧ tt st2 H2 fun b H3 =>
    if b = true then tk st2 H3 fun y H4 => tv st2 H4 fun z H5 => ∃ es kk kb, y = .ref kb ∧ H5 kb = some (.tup (kk.map kV)) ∧ H5 dd = some (.dT es) ∧ es.length < sizeLine ∧ Nx (upd H5 dd (.dT (putK es kk z))) else Nx H3)
theorem dcT_core {pn : List (Addr × Obj)} {sh : Shared} {st : L2.St} {H : Hp} {Q : VK} {kx vx tg iter : Expr} {ifs : List Expr} {sco : Scope} {own : List (Str × Nat)} {pos pos2 : Pos} {wi : TI} {g : TG} {tt : TT} {tk tv : TE} {use : Option (Value → Sem Unit)} {QF : Value → Shared → Prop}
    (calm : X.calm = true) (nd : X.N.Nodup) (room : X.A.units + 1 < cLine) (I : Inv X pn st H sh) (hit : PI X tg iter wi) (bk : BlkOk X.N X.env.scope sco own)
    (htg : ∀ (s : Shared) (H : Hp) (C : Addr) (cl : List (Str × Addr)) (fp : List Addr), PG (X.blk s H sco (compEnvC sco cl C X.env) fp) tg g)
    (hif : ∀ (s : Shared) (H : Hp) (C : Addr) (cl : List (Str × Addr)) (fp : List Addr), PTs (X.blk s H sco (compEnvC sco cl C X.env) fp) ifs tt)
    (hkx : ∀ (s : Shared) (H : Hp) (C : Addr) (cl : List (Str × Addr)) (fp : List Addr), PE (X.blk s H sco (compEnvC sco cl C X.env) fp) kx tk)
    (hvx : ∀ (s : Shared) (H : Hp) (C : Addr) (cl : List (Str × Addr)) (fp : List Addr), PE (X.blk s H sco (compEnvC sco cl C X.env) fp) vx tv) (fs : ∀ x, foldedSetIterable iter X.env x = pure x)
    (q0 : tDcT wi g tt tk tv (own.map (·.2)) st H Q)
    (post : ∀ dd C sh' m H', Inv X pn st H' sh' → Q (.ref dd) H' → sh'.heap.Ns C m → FpOk X pn H' C → compPost (model X.prog X.w) X.A X.xe use QF (.ref dd) C (.ok .next) sh') :
    wpAny (model X.prog X.w) X.A (comprehension (.DictComp kx vx [⟨tg, iter, ifs, 0⟩] sco pos) sco X.env pos2 newDict false (eval iter X.env) use) QF X.xe sh := by
  have frees : ∀ y ∈ sco.names, y.2 = .free → ∃ c, X.env.cells.lookup y.1 = some c := fun y my ey => (bk.free y my ey).elim (fun k => I.ok.has _ (.inl k)) fun k => I.ok.has _ (.inr k)
  refine wpAny_comprehension_free (use := use) rfl fs (closure_ok frees) bk.kind (fun y my ey => by rw [bk.uniq y my, ey]) (thn (hit.run pn sh st H _ I q0) fun xv sa hx => thn hx fun itv sb hb => ?_)
  obtain ⟨it, fp, tn, J, Hb, rfl, Ib, TT, tb, fb, qb⟩ := hb
  refine wpAny_newObj_type (newEnv_comp ?_)
  generalize eDD : sb.heap.objs.size = dd
  have freeD : Hb dd = none := Ib.hok.fresh (Nat.le_of_eq eDD)
  obtain ⟨W, ⟨m0, w0⟩, turn⟩ := qb dd freeD
  generalize eSC : ({ sb with heap := sb.heap.push { cls := .type "dict", data := .dict #[] } } : Shared) = sc
  have heapC : sc.heap = sb.heap.push { cls := .type "dict", data := .dict #[] } := by rw [← eSC]
  have Ic : Inv X pn st (upd Hb dd (.dT [])) sc := by
    subst eSC
    refine Ib.laid (t' := sb.toks) (fun a o ea => Heap.get?_push_of_some _ ea) (Nat.le_of_eq eDD) ?_
    subst eDD
    exact dt_empty sb.heap Ib.big
  have below : ∀ a ∈ fp, a < sb.heap.objs.size := fun a ma => by
    obtain ⟨o, eo, _⟩ := TT.obj _ _ tb a ma
    exact Heap.lt_size eo
  have fc : ∀ a ∈ fp, FpOk X pn (upd Hb dd (.dT [])) a ∧ a < sc.heap.objs.size := fun a ma => by
    have la := below a ma
    have na : a ≠ dd := by rw [← eDD]; exact Nat.ne_of_lt la
    refine ⟨⟨(upd_ne na).trans (fb a ma).1, (fb a ma).2⟩, ?_⟩
    rw [heapC, Heap.size_push]
    exact Nat.lt_succ_of_lt la
  have tc : tn 0 sc.heap := TT.keep _ _ _ tb fun a _ o eo => heapC ▸ Heap.get?_push_of_some _ eo
  have Id := block_start Ic bk nd fc
  have dg := htg sc (upd Hb dd (.dT [])) sc.heap.objs.size (cellsFrom (sc.heap.objs.size + 1) sco.names (cloFrom X.env.cells sco.names [])) fp
  have dt := hif sc (upd Hb dd (.dT [])) sc.heap.objs.size (cellsFrom (sc.heap.objs.size + 1) sco.names (cloFrom X.env.cells sco.names [])) fp
  have dk := hkx sc (upd Hb dd (.dT [])) sc.heap.objs.size (cellsFrom (sc.heap.objs.size + 1) sco.names (cloFrom X.env.cells sco.names [])) fp
  have dv := hvx sc (upd Hb dd (.dT [])) sc.heap.objs.size (cellsFrom (sc.heap.objs.size + 1) sco.names (cloFrom X.env.cells sco.names [])) fp
  show codeAny _ _ (.compStart (.DictComp kx vx [⟨tg, iter, ifs, 0⟩] sco pos) 0 (.ref it) (.ref dd) (compEnvC sco (cellsFrom (sc.heap.objs.size + 1) sco.names (cloFrom X.env.cells sco.names [])) sc.heap.objs.size X.env)) (compPost (model X.prog X.w) X.A X.xe use QF (.ref dd) sc.heap.objs.size) { sc with heap := pushCells (sc.heap.push { cls := .type "dict", data := .dict #[] }) sco.names }
  have noneC : ∀ a ∈ fp, (upd Hb dd (.dT [])) a = none := fun a ma => (fc a ma).1.1
  generalize eCE : compEnvC sco (cellsFrom (sc.heap.objs.size + 1) sco.names (cloFrom X.env.cells sco.names [])) sc.heap.objs.size X.env = ce at Id dg dt dk dv ⊢
  have locC : ce.locals = sc.heap.objs.size := by subst eCE; rfl
  generalize eHC : upd Hb dd (.dT []) = Hc at Ic Id dg dt dk dv w0 noneC fc
  generalize eSD : ({ sc with heap := pushCells (sc.heap.push { cls := .type "dict", data := .dict #[] }) sco.names } : Shared) = sd at Id ⊢
  have td : tn 0 sd.heap := TT.keep _ _ _ tc fun a _ o eo => by
    subst eSD
    exact pushCells_keeps _ _ _ _ (Heap.get?_push_of_some _ eo)
  have good : ∀ {st' : L2.St} {H' : Hp} {sh' : Shared}, Inv (X.blk sc Hc sco ce fp) [] st' H' sh' → (∀ a ∈ fp, H' a = none) → ∀ a ∈ fp, FpOk (X.blk sc Hc sco ce fp) [] H' a := fun {st' H' sh'} I' no a ma =>
    ⟨no a ma, (I'.ok.exf a ma).1, I'.ok.exfs a ma, .inl ma, fun x c ex => (I'.ok.exf a ma).2 x c ex, fun p hp => absurd (show p ∈ ([] : List (Addr × Obj)) ++ [] from hp) (by simp)⟩
  have loop : codeAny (model X.prog X.w) X.A (.compLoop (.DictComp kx vx [⟨tg, iter, ifs, 0⟩] sco pos) 0 (.ref it) (.ref dd) ce) (compPost (model X.prog X.w) X.A X.xe use QF (.ref dd) sc.heap.objs.size) sd := by
    refine compLoop_anyD (fun n sh' => ∃ i H', Inv (X.blk sc Hc sco ce fp) [] (wipe st (own.map (·.2))) H' sh' ∧ tn i sh'.heap ∧ (∀ a ∈ fp, H' a = none) ∧ W i n H') ?_ m0 ⟨0, Hc, Id, td, noneC, w0⟩
    rintro n se ⟨i, He, Ie, te, ne, we⟩
    rcases turn i n He we with ⟨stop, qq⟩ | ⟨go, Nx, less, step⟩
    · refine thnF (TT.done (X.blk sc Hc sco ce fp) rfl rfl rfl calm i [] se _ He (fun _ _ => False) Ie (good Ie ne) te stop) fun r sf ⟨er, If⟩ => ?_
      subst er
      have Ig : Inv X pn st He sf := Ic.call' (ch := fp) If.os If.base If.hok If.bare fun a ma => ⟨(fc a ma).1.2.2.2.1, (fc a ma).1.2.1, (fc a ma).1.2.2.2.2.1, (fc a ma).1.2.2.2.2.2⟩
      have fr : He sc.heap.objs.size = none := locC ▸ (show He ce.locals = none from If.free)
      obtain ⟨m, ns, _⟩ := If.loc
      have ns2 : sf.heap.Ns sc.heap.objs.size m := locC ▸ (show sf.heap.Ns ce.locals m from ns)
      exact post dd sc.heap.objs.size sf m He Ig qq ns2 (Ic.fpOk (Nat.le_refl _) fr)
    · refine thnF (TT.item (X.blk sc Hc sco ce fp) rfl rfl rfl calm i [] se _ He (fun _ _ => False) Ie (good Ie ne) te go) fun r sf ⟨u, er, hf⟩ => ?_
      subst er
      refine thnF hf fun _ sg ⟨x, Hg, Ig, rg, yg, tg', ng⟩ => ?_
      have Ip := Ig.pinned (good Ig ng) (TT.obj _ _ tg')
      refine thnF (dg.run _ sg _ Hg x u _ Ip rg (step x Hg yg)) fun _ s1 ⟨st1, H1, I1, ew, q1⟩ => ?_
      refine thnF (dt.run _ s1 st1 H1 _ I1 q1) fun b s2 ⟨H2, I2, q2⟩ => ?_
      have back : ∀ {sh' : Shared} {H' : Hp}, Inv (X.blk sc Hc sco ce fp) ([] ++ pinsAt fp sg.heap) st1 H' sh' → Nx H' → ∃ m, m < n ∧ ∃ i H', Inv (X.blk sc Hc sco ce fp) [] (wipe st (own.map (·.2))) H' sh' ∧ tn i sh'.heap ∧ (∀ a ∈ fp, H' a = none) ∧ W i m H' := fun {sh' H'} I' nx => by
        obtain ⟨m', lm, w'⟩ := less H' nx
        have kept : ∀ a ∈ fp, ∀ o, sg.heap.get? a = some o → sh'.heap.get? a = some o ∧ H' a = none := fun a ma o eo => by
          have z := I'.pin (a, o) (List.mem_append_right _ (List.mem_append_right _ (mem_pinsAt ma eo)))
          exact ⟨z.1, z.2.1⟩
        have ln : (wipe st (own.map (·.2))).length = st1.length := ew ▸ wipe_length ..
        refine ⟨m', lm, i + 1, H', (I'.unpinned (pins := [])).weak ln (fun j v ej => ?_), TT.keep _ _ _ tg' fun a ma o eo => (kept a ma o eo).1, fun a ma => ?_, w'⟩
        · rw [← ew] at ej
          exact (wipe_some ej).1
        · obtain ⟨o, eo, _⟩ := TT.obj _ _ tg' a ma
          exact (kept a ma o eo).2
      cases b with
      | false =>
        simp only [Bool.false_eq_true, if_false] at q2 ⊢
        exact back I2 q2
      | true =>
        simp only [if_true] at q2 ⊢
        refine thnF (dk.run _ s2 st1 H2 _ I2 q2) fun zk s3 ⟨yk, H3, I3, r3, q3⟩ => ?_
        refine thnF (dv.run _ s3 st1 H3 _ I3 q3) fun zv s4 ⟨yv, H4, I4, r4, es, kk, kb, ek, eK, eD, few, nx⟩ => ?_
        subst ek
        cases (show zk = Value.ref kb from r3)
        exact dset_tup (X := X.blk sc Hc sco ce fp) room I4 eD eK few r4 fun s5 I5 => back I5 nx
  exact codeAny_compStart_dict loop (TT.self X.A 0 _ _ _ td loop)
theorem pe_dcT {kx vx tg iter : Expr} {ifs : List Expr} {sco : Scope} {own : List (Str × Nat)} {pos : Pos} {wi : TI} {g : TG} {tt : TT} {tk tv : TE} (calm : X.calm = true) (nd : X.N.Nodup) (room : X.A.units + 1 < cLine) (hit : PI X tg iter wi) (bk : BlkOk X.N X.env.scope sco own)
    (htg : ∀ (s : Shared) (H : Hp) (C : Addr) (cl : List (Str × Addr)) (fp : List Addr), PG (X.blk s H sco (compEnvC sco cl C X.env) fp) tg g)
    (hif : ∀ (s : Shared) (H : Hp) (C : Addr) (cl : List (Str × Addr)) (fp : List Addr), PTs (X.blk s H sco (compEnvC sco cl C X.env) fp) ifs tt)
    (hkx : ∀ (s : Shared) (H : Hp) (C : Addr) (cl : List (Str × Addr)) (fp : List Addr), PE (X.blk s H sco (compEnvC sco cl C X.env) fp) kx tk)
    (hvx : ∀ (s : Shared) (H : Hp) (C : Addr) (cl : List (Str × Addr)) (fp : List Addr), PE (X.blk s H sco (compEnvC sco cl C X.env) fp) vx tv) (fs : ∀ x, foldedSetIterable iter X.env x = pure x := by intro _; rfl) :
    PE X (.DictComp kx vx [⟨tg, iter, ifs, 0⟩] sco pos) (tDcT wi g tt tk tv (own.map (·.2))) := by
  refine ⟨fun pn sh st H Q I q0 => ?_⟩
  rw [arm_eval_DictComp]
  refine dcT_core calm nd room I hit bk htg hif hkx hvx fs q0 fun dd C sh' m H' I' q ns ⟨f0, f1, f2, f3, f4, f5⟩ => ⟨m, ns, fun h2 sb => ?_⟩
  exact ⟨.ref dd, H', I'.turned (t' := sh'.toks) (fun b o hb e => (sb.2 b hb).trans e) f0 f1 f3 f4 f5, rfl, q⟩
end
end DL

/-! A dict comprehension whose keys are tuples, as data. -/
namespace DL
open PySem PySem.Spec PyProof.Rows L2 LamX
section
variable {X : Cx} {C : Fc} {E : XK} {pos : Pos}
def dcLT (g : GD) (c ek ev : ME) (vs : List Nat) : List D → DEnv → List (D × D) → Option (List (D × D) × DEnv)
  | [], r, es => some (es, r)
  | d :: l, r, es => match g d r with
    | none => none
    | some r1 => match c r1 with
      | .ok (.bl true) r2 => (match ek r2 with
        | .ok y r3 => (match ev r3 with
          | .ok z r4 => (match tkD y with
            | some kk => if es.length < 16777216 then dcLT g c ek ev vs l (wipeR r4 vs) (dPut (isTK kk) (.tup (kk.map keyD)) es z) else none
            | none => none)
          | _ => none)
        | _ => none)
      | .ok (.bl false) r2 => dcLT g c ek ev vs l (wipeR r2 vs) es
      | _ => none
def mDcT (it : MA) (g : GD) (c ek ev : ME) (vs : List Nat) : ME := fun r => match it r with
  | .ok l r1 => (match dcLT g c ek ev vs l (wipeR r1 vs) [] with
    | some (es, r2) => .ok (.dct true es) r2
    | none => .bad)
  | .exc x fs => .exc x fs
  | .bad => .bad
theorem e_dcT {kx vx tg iter : Expr} {ifs : List Expr} {scope : Scope} {own : List (Str × Nat)} {it : MA} {g : GD} {mc mk mv : ME} (hN : X.N.Nodup) (hu : X.A.units + 1 < cLine) (hi : PI X tg iter (tI C E it)) (ok : BlkOk X.N X.env.scope scope own)
    (hg : ∀ (s : Shared) (H : Hp) (A : Addr) (cl : List (Str × Addr)) (fp : List Addr), GOk (own.map (·.2)) (X.blk s H scope (compEnvC scope cl A X.env) fp) C tg g)
    (ht : ∀ (s : Shared) (H : Hp) (A : Addr) (cl : List (Str × Addr)) (fp : List Addr), PTs (X.blk s H scope (compEnvC scope cl A X.env) fp) ifs (tT C E0 mc))
    (hk : ∀ (s : Shared) (H : Hp) (A : Addr) (cl : List (Str × Addr)) (fp : List Addr), PE (X.blk s H scope (compEnvC scope cl A X.env) fp) kx (tE C E0 mk))
    (he : ∀ (s : Shared) (H : Hp) (A : Addr) (cl : List (Str × Addr)) (fp : List Addr), PE (X.blk s H scope (compEnvC scope cl A X.env) fp) vx (tE C E0 mv))
    (hc : X.calm = true := by rfl) (hs : ∀ x, foldedSetIterable iter X.env x = pure x := by intro _; rfl) :
    PE X (.DictComp kx vx [⟨tg, iter, ifs, 0⟩] scope pos) (tE C E (mDcT it g mc mk mv (own.map (·.2)))) := by
  refine e_lock (pe_dcT hc hN hu hi ok (fun s H A cl fp => (hg s H A cl fp).run) ht hk he hs) fun σ H Q ⟨r, ad, G, s, k⟩ => ⟨r, ad, G, s, ?_⟩
  generalize own.map (·.2) = vs at k ⊢
  unfold mDcT at k
  unfold kE at k
  unfold kI
  cases e : it r with
  | bad => simp only [e] at k
  | exc c fs => simp only [e] at k; exact k
  | ok l r1 =>
    simp only [e] at k
    intro J G1 H1 s1 k1 w D0 hD
    have nD : H D0 = none := by
      cases q : H D0 with
      | none => rfl
      | some o => exact absurd hD (k1.dom D0 (by rw [q]; simp))
    cases el : dcLT g mc mk mv vs l (wipeR r1 vs) [] with
    | none => simp only [el] at k
    | some z =>
      obtain ⟨em, rz⟩ := z
      simp only [el] at k
      let Pv : Nat → Hp → Prop := fun i H2 => ∃ r2 G2 acc es, Stt C r2 ad (L2.wipe σ vs) G2 H2 ∧ Kp C r r2 ad G H G2 H2 ∧ Same G1 G2 ∧ H2 D0 = some (.dT acc) ∧ G2 D0 = none ∧ RpT C.K G2 acc es ∧ dcLT g mc mk mv vs (l.drop i) r2 es = some (em, rz)
      have dw : ∀ {acc : List (List Key × V)} {H2 : Hp}, H2 D0 = some (.dT acc) → wr (H2 D0) := fun q => by rw [q]; trivial
      refine ⟨fun i m H2 => m = l.length - i ∧ i ≤ l.length ∧ Pv i H2, ⟨l.length, by simp, Nat.zero_le _, ?_⟩, ?_⟩
      · have gr : Grow G1 H1 G1 (upd H1 D0 (.dT [])) := Grow.layH s1.hst.sub s1.hst.gnt hD
        have s3 := (s1.grow gr).wipe (σ' := L2.wipe σ vs) (vs := vs) (wipe_length _ _) (fun i n => wipe_out n)
        exact ⟨_, G1, [], [], s3, (k1.trans (Kp.grow gr)).trans ⟨Same.refl _, fun j h => (own_wipe h).2, fun _ z => z, fun _ z => z, fun _ _ z _ _ => z, fun _ _ z _ => z⟩, Same.refl _, upd_same, s1.hst.sub.free hD, .nil, el⟩
      · rintro i m H2 ⟨rfl, hil, r2, G2, acc, es, s2, k2, g2, hD2, hG2, p2, el2⟩
        have nown : ∀ j, isOwn r2 j → D0 ≠ ad j := fun j h z => s.own_ne (k2.o j h) (by rw [← z]; exact nD)
        have ntab : ∀ p ∈ C.T, D0 ≠ p.1 := fun p hp z => by
          obtain ⟨ps, e1, _⟩ := s.hst.tabs p hp
          rw [← z, nD] at e1
          cases e1
        have h0 : C.H0 D0 = none := new_H0 s nD
        by_cases hi' : i < l.length
        rotate_left
        · have ei : i = l.length := by omega
          subst ei
          refine .inl ⟨w.w.stops _ (g2.trans s2.hst.sub), ?_⟩
          rw [List.drop_length] at el2
          unfold dcLT at el2
          cases el2
          have s3 : Stt C rz ad σ G2 H2 := by
            refine ⟨s2.hst, ?_, fun j d e' => ?_, fun j kk l' e' => ?_, fun j t l' e' => ?_, fun j cc l' e' => ?_, s2.inj⟩
            · rw [← s2.len, wipe_length]
            · obtain ⟨v, h1, h2⟩ := s2.dat j d e'
              exact ⟨v, (wipe_some h1).1, h2⟩
            · obtain ⟨h1, h2⟩ := s2.own j kk l' e'
              exact ⟨(wipe_some h1).1, h2⟩
            · obtain ⟨h1, h2⟩ := s2.ownD j t l' e'
              exact ⟨(wipe_some h1).1, h2⟩
            · obtain ⟨h1, h2⟩ := s2.ownI j cc l' e'
              exact ⟨(wipe_some h1).1, h2⟩
          refine ⟨D0, .dT acc, H2, rfl, ?_, trivial, fun od => ?_⟩
          · funext b
            unfold upd
            split
            · rename_i hb; rw [hb, hD2]
            · rfl
          · have np : ∀ j, isOwn rz j → ad j ≠ D0 := fun j hj z => nown j hj z.symm
            have s4 := s3.away (o' := .frz od (.dT acc)) hG2 h0 hD2 trivial (fun _ z => nomatch z) (fun _ _ z => by cases z) np
            have s5 := s4.still (o := .frz od (.dT acc)) hG2 h0 upd_same (fun _ z => nomatch z) np
            have sg : Same G2 (upd G2 D0 (.frz od (.dT acc))) := same_upd hG2
            refine k (.ref D0) _ _ s5 ?_ (.dT upd_same (RpT.mono sg _ _ p2))
            refine ⟨k2.g.trans sg, k2.o, fun b z => ?_, fun b z => ?_, fun b u z n t => ?_, fun b z y n => ?_⟩
            · by_cases hb : b = D0
              · rw [hb, upd_same]; simp
              · rw [upd_ne hb]; exact k2.dom b z
            · have hb : b ≠ D0 := fun hb => by rw [hb, nD] at z; exact z
              rw [upd_ne hb]; exact k2.domN b z
            · rw [upd_ne (ne_of_none z nD)]; exact k2.keep b u z n t
            · have hb : b ≠ D0 := fun hb => by rw [hb, nD] at z; exact z
              rw [upd_ne hb]; exact k2.nofz b z y n
        · refine .inr ⟨w.w.goes i H2 hi' (g2.trans s2.hst.sub), Pv (i + 1), fun H' p' => ⟨l.length - (i + 1), by omega, rfl, hi', p'⟩, fun x H3 y => ?_⟩
          obtain ⟨G3, gr, d, ed, pd⟩ := w.w.yields i H2 x H3 hi' (g2.trans s2.hst.sub) y G2 g2 s2.hst.sub s2.hst.gnt
          have s3 := s2.grow gr
          have hD3 : H3 D0 = some (.dT acc) := gr.h _ _ hD2
          have hG3 : G3 D0 = none := gr.nofz D0 (dw hD2) hG2
          have dr : l.drop i = d :: l.drop (i + 1) := by
            rw [List.drop_eq_getElem_cons hi']
            congr 1
            have := List.getElem?_eq_getElem hi'
            rw [this] at ed
            exact Option.some.inj ed
          rw [dr] at el2
          unfold dcLT at el2
          cases eg : g d r2 with
          | none => simp only [eg] at el2; cases el2
          | some r4 =>
            simp only [eg] at el2
            refine ⟨r2, ad, G3, d, s3, pd, r4, eg, fun σ4 G4 H4 w4 s4 k4 => ⟨w4.trans wipe_twice, ?_⟩⟩
            have k34 : Kp C r r4 ad G H G4 H4 := (k2.trans (Kp.grow gr)).trans k4
            have hD4 : H4 D0 = some (.dT acc) := k4.keep D0 _ hD3 nown ntab
            have hG4 : G4 D0 = none := k4.nofz D0 (dw hD3) hG3 nown
            have wlen : σ4.length = (L2.wipe σ vs).length := by rw [wipe_eq_len w4]
            have wout : ∀ j, j ∉ vs → (L2.wipe σ vs)[j]? = σ4[j]? := fun j n => (wipe_eq_out w4 n).symm
            refine ⟨r4, ad, G4, s4, ?_⟩
            unfold kT
            cases ec : mc r4 with
            | bad => simp only [ec] at el2; cases el2
            | exc x fs => simp only [ec] at el2; cases el2
            | ok bb r5 =>
              simp only [ec] at el2
              cases bb with
              | bl b =>
                refine ⟨b, rfl, fun G5 H5 s5 k5 => ?_⟩
                have nown4 : ∀ j, isOwn r4 j → D0 ≠ ad j := fun j h => nown j (k4.o j h)
                have hD5 : H5 D0 = some (.dT acc) := k5.keep D0 _ hD4 nown4 ntab
                have hG5 : G5 D0 = none := k5.nofz D0 (dw hD4) hG4 nown4
                have k45 := k34.trans k5
                cases b with
                | false =>
                  simp only at el2
                  exact iteF ⟨wipeR r5 vs, G5, acc, es, s5.wipe wlen.symm wout, k45.trans ⟨Same.refl _, fun j h => (own_wipe h).2, fun _ z => z, fun _ z => z, fun _ _ z _ _ => z, fun _ _ z _ => z⟩, (g2.trans gr.g).trans (k4.g.trans k5.g), hD5, hG5, RpT.mono (gr.g.trans (k4.g.trans k5.g)) _ _ p2, el2⟩
                | true =>
                  simp only at el2
                  refine iteT ⟨r5, ad, G5, s5, ?_⟩
                  unfold kE
                  have nown5 : ∀ j, isOwn r5 j → D0 ≠ ad j := fun j h => nown4 j (k5.o j h)
                  cases ek : mk r5 with
                  | bad => simp only [ek] at el2; cases el2
                  | exc x fs => simp only [ek] at el2; cases el2
                  | ok yv r6 =>
                    simp only [ek] at el2
                    intro v6 G6 H6 s6 k6 p6
                    have hD6 : H6 D0 = some (.dT acc) := k6.keep D0 _ hD5 nown5 ntab
                    have hG6 : G6 D0 = none := k6.nofz D0 (dw hD5) hG5 nown5
                    have nown6 : ∀ j, isOwn r6 j → D0 ≠ ad j := fun j h => nown5 j (k6.o j h)
                    refine ⟨r6, ad, G6, s6, ?_⟩
                    unfold kE
                    cases ev : mv r6 with
                    | bad => simp only [ev] at el2; cases el2
                    | exc x fs => simp only [ev] at el2; cases el2
                    | ok zv r7 =>
                      simp only [ev] at el2
                      intro v7 G7 H7 s7 k7 p7
                      have hD7 : H7 D0 = some (.dT acc) := k7.keep D0 _ hD6 nown6 ntab
                      have hG7 : G7 D0 = none := k7.nofz D0 (dw hD6) hG6 nown6
                      have nown7 : ∀ j, isOwn r7 j → D0 ≠ ad j := fun j h => nown6 j (k7.o j h)
                      cases ekd : tkD yv with
                      | none => simp only [ekd] at el2; cases el2
                      | some kk =>
                        simp only [ekd] at el2
                        split at el2
                        · rename_i hlen
                          obtain ⟨ll, rfl, eks⟩ := tkD_tup ekd
                          obtain ⟨kb, xs6, rfl, hs6, hl6⟩ : ∃ kb xs6, v6 = .ref kb ∧ G6 kb = some (.tup xs6) ∧ RpL C.K G6 xs6 ll := by
                            cases p6 with
                            | tup hs hl => exact ⟨_, _, rfl, hs, hl⟩
                          obtain ⟨q1, q2⟩ := ksD_rp eks hl6
                          subst q1
                          have hK7 : H7 kb = some (.tup (kk.map kV)) := s7.hst.sub _ _ (k7.g _ _ hs6)
                          have p7' : RpT C.K G7 acc es := RpT.mono (gr.g.trans (k4.g.trans (k5.g.trans (k6.g.trans k7.g)))) _ _ p2
                          have k77 := (k45.trans k6).trans k7
                          refine ⟨acc, kk, kb, rfl, hK7, hD7, by rw [p7'.length, sizeLine_eq]; exact hlen, wipeR r7 vs, G7, putK acc kk v7, dPut (isTK kk) (.tup (kk.map keyD)) es zv, ?_, ?_, (g2.trans gr.g).trans (k4.g.trans (k5.g.trans (k6.g.trans k7.g))), upd_same, hG7, put_T p7 p7', el2⟩
                          · have z := s7.wipe (σ' := L2.wipe σ vs) (vs := vs) wlen.symm wout
                            exact z.away hG7 h0 hD7 trivial (fun _ z => nomatch z) (fun _ _ z => by cases z) fun j h y => nown7 j (own_wipe h).2 y.symm
                          · refine ⟨k77.g, fun j h => k77.o j (own_wipe h).2, fun b z => ?_, fun b z => ?_, fun b u z n t => ?_, k77.nofz⟩
                            · by_cases hb : b = D0
                              · rw [hb, upd_same]; simp
                              · rw [upd_ne hb]; exact k77.dom b z
                            · by_cases hb : b = D0
                              · rw [hb, upd_same]; trivial
                              · rw [upd_ne hb]; exact k77.domN b z
                            · rw [upd_ne (ne_of_none z nD)]
                              exact k77.keep b u z n t
                        · cases el2
              | _ => simp only at el2; cases el2
end
end DL

/-! dict(CONST) of a written tuple of pairs; {k: v, ..} with int and text keys; a def under another name. -/
namespace DL
open PySem PySem.Spec PyProof.Rows L2 LamX
/-- a def that has a second name at the top -/
theorem Df.alias {P : Program} {w : World} {K : PySem.W.Frag} {mg : Str → Option Value} {base : Heap} {k : Nat} {x y : Str} {sp : Sp} (d : Df P w K mg base k x sp) (h : mg y = mg x) : Df P w K mg base k y sp := by
  obtain ⟨f, fd, ps, o, m, r⟩ := d.ex
  exact ⟨f, fd, ps, o, h.trans m, r⟩
section
variable {X : Cx} {C : Fc} {E : XK} {pos : Pos}
theorem call_dictTup (hcalm : X.calm = true) : CallR X (.type "dict") (fun xs H Q => ∃ (a : Addr) (o : Obj) (ps : List Addr) (kvs : List (Key × V)), xs = [.ref a] ∧ X.K.lookup a = some o ∧ o.dict = none ∧ SqT X.K H a (ps.map V.ref) ∧ Paired (fun p kv => SqT X.K H p [kV kv.1, kv.2]) ps kvs ∧
    ∀ p, H p = none → Q (.ref p) (upd H p (.dK (mergeK [] kvs)))) := by
  intro pn sh st H xs us Q I rel q
  obtain ⟨a, o, ps, kvs, rfl, lk, dn, sq, pr, q⟩ := q
  obtain ⟨u, rfl, rx⟩ := vals1 rel
  cases rx
  obtain ⟨its, rv, ⟨o2, ho, hc, n, hd⟩, hz⟩ := I.tuple sq
  have eo : o2 = o := by
    have := I.kIn a o lk
    rw [ho] at this
    exact Option.some.inj this
  subst eo
  cases refs_at rv
  rw [List.length_map] at hz
  obtain ⟨prs, rk, ln, at_⟩ := pairs_of I pr
  have keyed : ∀ j : Nat, ∃ u : Value, ∀ q, prs[j]? = some q → ∃ b, ps[j]? = some b ∧ IsTup sh.heap b #[u, q.2] ∧ keyIs q.1 u = true := fun j => by
    cases e : prs[j]? with
    | none => exact ⟨.none, fun q h => by cases h⟩
    | some q0 =>
      obtain ⟨b, u, e1, e2, e3⟩ := at_ j q0 e
      exact ⟨u, fun q h => by cases h; exact ⟨b, e1, e2, e3⟩⟩
  let us : Nat → Value := fun j => (keyed j).choose
  have hus : ∀ j q, prs[j]? = some q → ∃ b, ps[j]? = some b ∧ IsTup sh.heap b #[us j, q.2] ∧ keyIs q.1 (us j) = true := fun j => (keyed j).choose_spec
  let pv : List (Value × Value) := prs.mapIdx fun j q => (us j, q.2)
  have pvl : pv.length = prs.length := by simp [pv]
  have pva : ∀ j k v, pv[j]? = some (k, v) → ∃ q, prs[j]? = some q ∧ k = us j ∧ v = q.2 := fun j k v e => by
    simp only [pv, List.getElem?_mapIdx, Option.map_eq_some_iff, Prod.mk.injEq] at e
    obtain ⟨q, e1, e2, e3⟩ := e
    exact ⟨q, e1, e2.symm, e3.symm⟩
  have big : ps.length = prs.length := ln.symm
  refine PySem.call_dict_pairs (knd := mixKind X.prog X.w) (kvs := prs) (PairArg.tuple a ((ps.map Value.ref).toArray) (fun j => ps.getD j 0) pv) (I.ok.hd hcalm) ⟨⟨o2, n, ho, hc, dn, hd⟩, ⟨by simp [pvl, big], fun j k v e => ?_⟩⟩ ⟨pvl.symm, fun i k v e => ?_⟩ (by rw [pvl, ← big]; exact hz) fun h2 tk d2 keep => ?_
  · obtain ⟨q, e1, rfl, rfl⟩ := pva j k v e
    obtain ⟨b, e2, e3, _⟩ := hus j q e1
    have e4 : ps.getD j 0 = b := by rw [List.getD_eq_getElem?_getD, e2]; rfl
    show (List.map Value.ref ps).toArray[j]? = some (Value.ref (ps.getD j 0)) ∧ PairAt sh.heap (ps.getD j 0) (us j) q.2
    rw [e4]
    exact ⟨by simp [e2], .inl e3⟩
  · obtain ⟨q, e1, rfl, rfl⟩ := pva i k v e
    obtain ⟨b, _, _, e5⟩ := hus i q e1
    exact ⟨q.1, e1, e5⟩
  · have hm : (sh.heap.objs.size == sysModules) = false := beq_eq_false_iff_ne.mpr (Nat.ne_of_gt I.big)
    have few : (mergeK [] kvs).length ≤ sizeLine := by
      have l1 := length_mergeK kvs []
      have l2 := rk.length
      rw [List.length_nil] at l1
      omega
    refine ⟨.ref sh.heap.objs.size, upd H sh.heap.objs.size (.dK (mergeK [] kvs)), I.laid (t' := tk) (fun b ob eb => keep b ob (by simp) eb) (Nat.le_refl _) ?_, rfl, q _ (I.hok.fresh (Nat.le_refl _))⟩
    exact ⟨few, hm, merged [] prs, KV.merge rk .nil, d2⟩
/-- pairs of written constants -/
def pairC (d : D) : Option (Key × D) := match d with
  | .cst [k, v] => (kD k).map fun kk => (kk, v)
  | _ => none
def pairsC : List D → Option (List (Key × D))
  | [] => some []
  | d :: l => match pairC d, pairsC l with
    | some q, some r => some (q :: r)
    | _, _ => none
theorem pairsC_rp {K : PySem.W.Frag} {G H : Hp} (sub : Same G H) : ∀ {l : List D} {vs : List V} {ps : List (Key × D)}, RpL K G vs l → pairsC l = some ps → ∃ as kvs, vs = as.map V.ref ∧ Paired (fun p (kv : Key × V) => SqT K H p [kV kv.1, kv.2]) as kvs ∧ Paired (fun (kv : Key × V) (q : Key × D) => kv.1 = q.1 ∧ Rp K G kv.2 q.2) kvs ps
  | [], _, _, h, e => by cases h; cases e; exact ⟨[], [], rfl, .nil, .nil⟩
  | d :: l, _, ps, h, e => by
    cases h with
    | cons h1 h2 =>
      unfold pairsC at e
      split at e
      · rename_i q r eq er
        cases e
        obtain ⟨as, kvs, rfl, a1, a2⟩ := pairsC_rp sub h2 er
        cases d <;> first | (cases eq; done) | skip
        rename_i m
        unfold pairC at eq
        split at eq
        · rename_i k v em
          cases em
          cases ek : kD k with
          | none => rw [ek] at eq; cases eq
          | some kk =>
            rw [ek] at eq
            cases eq
            cases h1 with
            | cst hs hp =>
              cases hp with
              | cons hk hp =>
                cases hp with
                | cons hv hp =>
                  cases hp
                  obtain ⟨rfl, _⟩ := kD_rp ek hk
                  exact ⟨_ :: as, (kk, _) :: kvs, rfl, .cons (SqT_same sub hs) a1, .cons ⟨rfl, hv⟩ a2⟩
        · cases eq
      · cases e
theorem e_dictC {x : Str} {p p2 : Pos} {l : List D} {ps : List (Key × D)} (hm : X.mg "dict" = none) (h : ∃ a o, X.mg x = some (.ref a) ∧ X.K.lookup a = some o ∧ o.cls = .type "tuple" ∧ o.dict = none ∧ ∀ G, Rp C.K G (.ref a) (.cst l)) (hps : pairsC l = some ps) (hK : C.K = X.K := by rfl) (hc : X.calm = true := by rfl) (hgl : Gl X "dict" := by rfl) (hg : Gl X x := by rfl) (hd : (x == ("__debug__" : Str)) = false := by decide)
    (he : starEach [.Name x p2] X.env = (false, eval (.Name x p2) X.env) :: starEach [] X.env := by rfl) (hpl : (backTo pos (starEach [] X.env)).any (·.1) = false := by rfl) :
    PE X (.Call (.Name "dict" p) [.Name x p2] [] pos) (tE C E (mC (.dct false (mergeD [] ps)))) := by
  obtain ⟨a, o, hx, hk, hcl, hdd, hr⟩ := h
  refine e_lock (pe_callTy (call_dictTup hc) hgl hm (by decide +kernel) (pa_cons (pe_glob (v := .ref a) hg hx rfl hd) pa_nil he) (by decide) (by decide) he hpl) fun σ H Q ⟨r, ad, G, s, k⟩ => ?_
  have hrG := hr G
  cases hrG with
  | cst hs hp =>
    obtain ⟨as, kvs, rfl, a1, a2⟩ := pairsC_rp s.hst.sub hp hps
    refine ⟨a, o, as, kvs, rfl, hk, hdd, by rw [← hK]; exact SqT_same s.hst.sub hs, by rw [← hK]; exact a1, fun q hq => ⟨q, _, H, rfl, rfl, trivial, fun od => ?_⟩⟩
    have lay := Grow.lay (o := .frz od (.dK (mergeK [] kvs))) s.hst.sub s.hst.gnt hq (fun ps z => by cases z)
    exact k _ _ _ (s.grow lay) (Kp.grow lay) (.dK upd_same (RpK.mono lay.g _ _ (mergeD_rp a2 .nil)))
/-! ### a display -/
inductive PR where
  | ok (ps : List (Key × D)) (r : DEnv)
  | exc (c : Str) (fs : List (Str × D))
  | bad
def dspM : List (ME × ME) → DEnv → PR
  | [], r => .ok [] r
  | (mk, mv) :: l, r => match mk r with
    | .ok y r1 => (match kD y with
      | some kk => (match mv r1 with
        | .ok z r2 => (match dspM l r2 with
          | .ok ps r3 => .ok ((kk, z) :: ps) r3
          | .exc c fs => .exc c fs
          | .bad => .bad)
        | .exc c fs => .exc c fs
        | .bad => .bad)
      | none => .bad)
    | .exc c fs => .exc c fs
    | .bad => .bad
def mDisp (ms : List (ME × ME)) : ME := fun r => match dspM ms r with
  | .ok ps r1 => .ok (.dct false (mergeD [] ps)) r1
  | .exc c fs => .exc c fs
  | .bad => .bad
def trsOf (C : Fc) (E : XK) (ms : List (ME × ME)) : List (TE × TE) := ms.map fun q => (tE C E q.1, tE C E q.2)
theorem disp_run {σ : L2.St} {D0 : Addr} : ∀ (ms : List (ME × ME)) {r : DEnv} {ad : Nat → Addr} {G H : Hp} {Q : List (V × V) → Hp → Prop}, Stt C r ad σ G H →
    (match dspM ms r with
      | .ok ps r' => ∀ kvs G' H', Stt C r' ad σ G' H' → Kp C r r' ad G H G' H' → Paired (fun (kv : Key × V) (q : Key × D) => kv.1 = q.1 ∧ Rp C.K G' kv.2 q.2) kvs ps → Q (kvs.map fun kv => (kV kv.1, kv.2)) H'
      | .exc c fs => kX C E c fs
      | .bad => False) → tPairs (trsOf C E ms) σ H Q
  | [], r, ad, G, H, Q, s, k => k [] G H s (Kp.refl _ _ _ _ _) .nil
  | (mk, mv) :: ms, r, ad, G, H, Q, s, k => by
    refine ⟨r, ad, G, s, ?_⟩
    show kE C E (mk r) r ad σ G H fun x H1 => tE C E mv σ H1 fun y H2 => tPairs (trsOf C E ms) σ H2 fun ps H3 => Q ((x, y) :: ps) H3
    unfold dspM at k
    unfold kE
    cases ek : mk r with
    | bad => simp only [ek] at k
    | exc c fs => simp only [ek] at k; exact k
    | ok y r1 =>
      simp only [ek] at k
      intro vy G1 H1 s1 k1 p1
      cases ekd : kD y with
      | none => simp only [ekd] at k
      | some kk =>
        simp only [ekd] at k
        obtain ⟨rfl, _⟩ := kD_rp ekd p1
        refine ⟨r1, ad, G1, s1, ?_⟩
        unfold kE
        cases ev : mv r1 with
        | bad => simp only [ev] at k
        | exc c fs => simp only [ev] at k; exact k
        | ok z r2 =>
          simp only [ev] at k
          intro vz G2 H2 s2 k2 p2
          refine disp_run (D0 := D0) ms s2 ?_
          cases ed : dspM ms r2 with
          | bad => simp only [ed] at k
          | exc c fs => simp only [ed] at k ⊢; exact k
          | ok ps r3 =>
            simp only [ed] at k ⊢
            intro kvs G3 H3 s3 k3 p3
            exact k ((kk, vz) :: kvs) G3 H3 s3 ((k1.trans k2).trans k3) (.cons ⟨rfl, p2.up k3.g⟩ p3)
theorem e_disp {keys : List (Option Expr)} {values : List Expr} {ms : List (ME × ME)} (h : PPs X pos keys values (trsOf C E ms)) (hms : ms.length ≤ 15 := by decide) (hall : keys.all (·.isSome) = true := by rfl) (hl : keys.length = values.length := by rfl) (h0 : keys ≠ [] := by intro z; cases z)
    (h15 : keys.length ≤ 15 := by decide) : PE X (.Dict keys values pos) (tE C E (mDisp ms)) := by
  refine e_lock (pe_disp h hall hl h0 h15) fun σ H Q ⟨r, ad, G, s, k⟩ D0 nD => ?_
  have gr : Grow G H G (upd H D0 (.dK [])) := Grow.layH s.hst.sub s.hst.gnt nD
  have s1 := s.grow gr
  refine disp_run (D0 := D0) ms s1 ?_
  unfold mDisp at k
  unfold kE at k
  cases e : dspM ms r with
  | bad => simp only [e] at k
  | exc c fs => simp only [e] at k ⊢; exact k
  | ok ps r1 =>
    simp only [e] at k ⊢
    intro kvs G2 H2 s2 k2 p2
    have nown : ∀ j, isOwn r j → D0 ≠ ad j := fun j hj z => s.own_ne hj (by rw [← z]; exact nD)
    have ntab : ∀ q ∈ C.T, D0 ≠ q.1 := fun q hq z => by
      obtain ⟨ts, e1, _⟩ := s.hst.tabs q hq
      rw [← z, nD] at e1
      cases e1
    have hD : H2 D0 = some (.dK []) := k2.keep D0 _ upd_same nown ntab
    have hG : G2 D0 = none := k2.nofz D0 (by rw [upd_same]; trivial) (s.hst.sub.free nD) nown
    have h0' : C.H0 D0 = none := new_H0 s nD
    have len : kvs.length ≤ 15 := by
      have l1 : kvs.length = ps.length := Paired.length p2
      have l2 : ∀ (ms : List (ME × ME)) (r r1 : DEnv) (ps : List (Key × D)), dspM ms r = .ok ps r1 → ps.length = ms.length := by
        intro ms
        induction ms with
        | nil => intro r r1 ps e; cases e; rfl
        | cons q ms ih =>
          intro r r1 ps e
          obtain ⟨mk, mv⟩ := q
          unfold dspM at e
          split at e <;> first | (cases e; done) | skip
          split at e <;> first | (cases e; done) | skip
          split at e <;> first | (cases e; done) | skip
          split at e <;> first | (cases e; done) | skip
          rename_i ps' r3 e4
          cases e
          rw [List.length_cons, List.length_cons, ih _ _ _ e4]
      rw [l1, l2 ms r r1 ps e]
      exact hms
    refine ⟨hD, kvs, rfl, len, D0, .dK (mergeK [] kvs), H2, rfl, rfl, trivial, fun od => ?_⟩
    have np : ∀ j, isOwn r1 j → ad j ≠ D0 := fun j hj z => nown j (k2.o j hj) z.symm
    have s4 := s2.away (o' := .frz od (.dK (mergeK [] kvs))) hG h0' hD trivial (fun _ z => nomatch z) (fun _ _ z => by cases z) np
    have s5 := s4.still (o := .frz od (.dK (mergeK [] kvs))) hG h0' upd_same (fun _ z => nomatch z) np
    have sg : Same G2 (upd G2 D0 (.frz od (.dK (mergeK [] kvs)))) := same_upd hG
    refine k (.ref D0) _ _ s5 ?_ (.dK upd_same (RpK.mono sg _ _ (mergeD_rp p2 .nil)))
    have k3 := (Kp.grow gr).trans k2
    refine ⟨k3.g.trans sg, k3.o, fun b z => ?_, fun b z => ?_, fun b u z n t => ?_, fun b z y n => ?_⟩
    · by_cases hb : b = D0
      · rw [hb, upd_same]; simp
      · rw [upd_ne hb]; exact k3.dom b z
    · have hb : b ≠ D0 := fun hb => by rw [hb, nD] at z; exact z
      rw [upd_ne hb]; exact k3.domN b z
    · rw [upd_ne (ne_of_none z nD)]; exact k3.keep b u z n t
    · have hb : b ≠ D0 := fun hb => by rw [hb, nD] at z; exact z
      rw [upd_ne hb]; exact k3.nofz b z y n
theorem dp_nil : PPs X pos [] [] (trsOf C E []) := pps_nil
theorem dp_cons {k v : Expr} {ks : List (Option Expr)} {vs : List Expr} {mk mv : ME} {ms : List (ME × ME)} (hk : PE X k (tE C E mk)) (hv : PE X v (tE C E mv)) (hr : PPs X pos ks vs (trsOf C E ms)) : PPs X pos (some k :: ks) (v :: vs) (trsOf C E ((mk, mv) :: ms)) := pps_cons hk hv hr
end
end DL
namespace DL
open PySem PySem.Spec PyProof.Rows L2 LamX
section
variable {X : Cx} {C : Fc} {E : XK} {pos : Pos}
/-- return x, x a list held alone -/
def sRetOwn (i : Nat) : MS := fun r => match r[i]? with
  | some (.own false l) => .rtO l (r.set i .un)
  | _ => .bad
theorem s_retOwn (i : Nat) {x : Str} {p : Pos} (hN : X.N[i]? = some x := by rfl) (hv : Vis X.env.scope x := by first | exact Or.inl rfl | exact Or.inr (Or.inl rfl) | exact Or.inr (Or.inr rfl)) (hd : (x == ("__debug__" : Str)) = false := by decide) (hcd : (x == ("__classdict__" : Str)) = false := by decide) :
    PS X (.Return (some (.Name x p)) pos) (tS C E (sRetOwn i)) := by
  refine PS.imp (ps_ret (pe_var hN hv hd hcd)) fun Dn σ H ⟨r, ad, G, s, k⟩ => ?_
  unfold sRetOwn at k
  split at k
  · rename_i l e
    obtain ⟨h1, h2, h3, xs, h4, h5⟩ := s.own i false l e
    refine ⟨.ref (ad i), h1, ?_⟩
    have ni : ∀ j, isOwn (r.set i .un) j → ad j ≠ ad i := fun j hj z => by
      obtain ⟨n, o⟩ := own_set_un hj
      exact n (s.inj j i o (.inl ⟨false, l, e⟩) z)
    exact k (ad i) xs ad (σ.set i none) G H (s.setU (i := i)) ni h2 h3 h4 h5
  · exact k.elim
end
end DL

/-! sorted(d), d a dict: its keys are taken into a new list first. -/
namespace DL
open PySem PySem.Spec PyProof.Rows L2 LamX
section
open PySem.W PySem.Calls
variable {prog : Program} {w : World} {A : Around} {E : Value → Shared → Prop} {s : Shared}
theorem sorted_src {β : Type} {T : String} {r d : Addr} {n : Nat} {PP : Nat → Value → Prop} {OK : Heap → Prop} {bs : List β} {enc : β → PyData} {R : Value → β → Prop} {Q : Value → Shared → Prop} (src : KdlSrc prog w T r d n PP OK) (hh : A.handled = none) (hok : OK s.heap)
    (hL : n ≤ sizeLine) (each : ∀ vs : List Value, vs.length = n → (∀ j v, vs[j]? = some v → PP j v) → EachIs R vs bs ∧ EachIs (fun v b => ∃ as, Reads s.heap v (enc b) as) vs bs)
    (hal : AllAlike (bs.map enc)) (hk : Sortable (bs.map enc)) (hu : ∀ b, b ∈ bs → A.units + 2 + (enc b).depth < cLine)
    (h : ∀ (D e tk : Nat) (h1 h' : Heap) (out : List Value), EachIs R out (bs.mergeSort (dataLe false enc)) → (∀ b o, s.heap.get? b = some o → h1.get? b = some o) → h1.objs.size ≤ D → (∀ b o, h1.get? b = some o → h'.get? b = some o) → h'.get? D = some (seqObj "list" out.toArray e) → Q (.ref D) { s with heap := h', toks := tk }) :
    wpAny (model prog w) A (call (.builtin "sorted") [.ref r]) Q E s := by
  refine call_function_entry kind_sorted plain_sorted entry_sorted (args_sorted1 _) ?_
  unfold Builtin.«sorted»
  refine wpAny_bind (m := checkCount "sorted" 1 1 _) (wpAny_pure ?_)
  refine wpAny_bind (kdu_collect (A := A.in1) src hh hok hL fun h1 tk acc old got => ?_)
  have ln : acc.toList.length = n := by rw [Array.length_toList]; exact got.1
  have at_ : ∀ j v, acc.toList[j]? = some v → PP j v := fun j v e => got.2 j v (by rw [← Array.getElem?_toList]; exact e)
  obtain ⟨e1, e2⟩ := each _ ln at_
  generalize acc.toList = vs at ln e1 e2
  refine wpAny_bind (wpAny_newList ?_ (by rw [ln]; exact hL))
  have inH : (h1.push (seqObj "list" vs.toArray 0)).get? h1.objs.size = some (seqObj "list" vs.toArray 0) := Heap.get?_push_size _ rfl
  have oldS : ∀ b o, h1.get? b = some o → (sortingHeap (h1.push (seqObj "list" vs.toArray 0)) h1.objs.size vs).get? b = some o := fun b o eb => sortingHeap_old (Nat.ne_of_lt (Heap.lt_size eb)) (Heap.get?_push_of_some _ eb)
  have e3 : EachIs (fun v b => ∃ as, Reads (sortingHeap (h1.push (seqObj "list" vs.toArray 0)) h1.objs.size vs) v (enc b) as) vs bs := e2.mono fun _ _ ⟨as, rd⟩ => ⟨as, PyProof.Rows.Reads.keeps (fun b o => fun eb => oldS b o (old b o eb)) rd⟩
  refine wpAny_bind (wpAny_holding (wpAny_call_entry_kw slot_list_sort ⟨_, inH, rfl⟩ entry_list_sort ?body (args_list_sort _)))
  case body =>
    refine wpAny_mono (list_sort_vals (P := fun f s' => f = .done (.ret .none) ∧ Q (.ref h1.objs.size) s') (s := { s with heap := h1.push (seqObj "list" vs.toArray 0), toks := tk }) (κ := dataKind (sortingHeap (h1.push (seqObj "list" vs.toArray 0)) h1.objs.size vs) (bs.map enc)) inH
      (SortsAt.data (s := { s with heap := sortingHeap (h1.push (seqObj "list" vs.toArray 0)) h1.objs.size vs, toks := tk }) (each_map (R := fun v d => ∃ as, Reads (sortingHeap (h1.push (seqObj "list" vs.toArray 0)) h1.objs.size vs) v d as) enc e3) hal hk (bound_map hu)) (by rw [ln]; exact hL)
      ⟨rfl, ?_⟩) (fun f s' hf => ?_) fun _ _ z => z
    · obtain ⟨ep, he⟩ := PyProof.Rows.sortedHeap_at (out := (sortVals (dataKind (sortingHeap (h1.push (seqObj "list" vs.toArray 0)) h1.objs.size vs) (bs.map enc)) false vs vs).toArray) inH
      refine h h1.objs.size ep tk h1 _ _ (sortVals_data false e1 e3 hal) old (Nat.le_refl _) (fun b o eb => ?_) he
      rw [PyProof.Rows.sortedHeap_old (Nat.ne_of_lt (Heap.lt_size eb)) (Heap.lt_size (Heap.get?_push_of_some _ eb))]
      exact Heap.get?_push_of_some _ eb
    · obtain ⟨rfl, hq⟩ := hf
      exact ⟨_, rfl, wpAny_pure ⟨_, rfl, hq⟩⟩
end
theorem vals_of : ∀ {xs : List V} {vs : List Value}, xs.length = vs.length → (∀ (j : Nat) x v, xs[j]? = some x → vs[j]? = some v → RelV x v) → Vals xs vs
  | [], [], _, _ => .nil
  | x :: xs, v :: vs, hl, h => .cons (h 0 x v rfl rfl) (vals_of (by simpa using hl) fun j a b ea eb => h (j + 1) a b (by simpa using ea) (by simpa using eb))
  | [], v :: vs, hl, _ => by simp at hl
  | x :: xs, [], hl, _ => by simp at hl
theorem paired_get {α β : Type} {R : α → β → Prop} : ∀ {as : List α} {bs : List β} {j : Nat} {a : α}, Paired R as bs → as[j]? = some a → ∃ b, bs[j]? = some b ∧ R a b
  | _, _, _, _, .nil, e => by simp at e
  | _, _, 0, _, .cons h _, e => by simp at e; subst e; exact ⟨_, rfl, h⟩
  | _, _, j + 1, _, .cons _ t, e => by
    obtain ⟨b, e1, e2⟩ := paired_get (j := j) t (by simpa using e)
    exact ⟨b, by simpa using e1, e2⟩
/-- what a sort of values asks, and leaves -/
def SortQ (K : PySem.W.Frag) (H : Hp) (xs : List V) (Q : VK) : Prop := ∃ (G : Hp) (ds : List D), Same G H ∧ RpL K G xs ds ∧ okSort (ds.map toP) = true ∧ ∀ p ys, H p = none → RpL K G ys (sortD0 ds) → Q (.ref p) (upd H p (.lst ys))
def rSortM (K : PySem.W.Frag) : List V → Hp → VK → Prop := fun vs H Q => ∃ d, vs = [.ref d] ∧ ((∃ kvs : List (Key × V), Rd H d (.dK kvs) ∧ SortQ K H (kvs.map fun p => kV p.1) Q) ∨ ∃ kvs : List (List Key × V), Rd H d (.dT kvs) ∧ ∀ as, Paired (fun a (kv : List Key × V) => H a = some (.tup (kv.1.map kV))) as kvs → SortQ K H (as.map V.ref) Q)
section
variable {X : Cx} {C : Fc} {E : XK}
theorem sort_src {pn : List (Addr × Obj)} {sh : Shared} {st : L2.St} {H : Hp} {Q : VK} {EE : Value → Shared → Prop} {d : Addr} {es : Array DictEntry} {ep : Nat} {xs : List V} (hu : X.A.units + 65 < cLine) (I : Inv X pn st H sh) (calm : X.calm = true) (lo : (d == sysModules) = false) (raw : sh.heap.DictRaw d es ep)
    (hkey : ∀ vs : List Value, vs.length = es.size → (∀ j v, vs[j]? = some v → ∃ hi : j < es.size, v = es[j].key) → Vals xs vs) (q : SortQ X.K H xs Q) : wpAny (model X.prog X.w) X.A (call (.builtin "sorted") [.ref d]) (EP X pn st Q) EE sh := by
  obtain ⟨G, ds, sub, hx, ok, q⟩ := q
  obtain ⟨hal, hsk, h1000, hdep⟩ := okSort_of ok
  have hcan : PyData.canLayAll0 (toPs ds) = true := canAll_of fun d hd => (hdep d hd).2
  have es1 : (xs.zip ds).map (fun b => toP b.2) = ds.map toP := by
    have := congrArg (List.map toP) (zip_snd (vs := xs) hx.length)
    rwa [List.map_map] at this
  have lb : (xs.zip ds).length = ds.length := by rw [List.length_zip, hx.length, Nat.min_self]
  rw [List.length_map] at h1000
  have lnE : es.size ≤ 1000 := by
    have := (hkey ((List.range es.size).map fun j => (es[j]?.map (·.key)).getD .none) (by simp) fun j v e => by
      simp only [List.getElem?_map, Option.map_eq_some_iff] at e
      obtain ⟨i, hi, rfl⟩ := e
      obtain ⟨hj, rfl⟩ := List.getElem?_eq_some_iff.mp hi
      simp only [List.length_range] at hj
      exact ⟨hj, by simp [hj]⟩).length
    have l2 := hx.length
    simp at this
    omega
  refine sorted_src (R := fun u (b : V × D) => RelV b.1 u) (bs := xs.zip ds) (enc := fun b : V × D => toP b.2) (KdlSrc.rawDict lo) (I.ok.hd calm) raw (by rw [sizeLine_eq]; omega) (fun vs lv pv => ?_) (by rw [es1]; exact hal) (by rw [es1]; exact hsk) (fun b hb => ?_) fun dA e tk h1 h2 out eo old le new at_ => ?_
  · have rv := hkey vs lv pv
    obtain ⟨as, rd⟩ := Dp.readsAll I _ _ _ (dps_of sub ds xs hcan hx) rv
    rw [toPs_map] at rd
    exact ⟨zip_each rv hx.length, PySem.W.readsAll_each (fun b : V × D => toP b.2) (vs := vs) (bs := xs.zip ds) (as := as) (by rw [es1]; exact rd)⟩
  · have hm : toP b.2 ∈ ds.map toP := by rw [← es1]; exact List.mem_map.mpr ⟨b, hb, rfl⟩
    have := (hdep _ hm).1
    omega
  · have vo := each_fst eo
    have po : RpL X.K G (((xs.zip ds).mergeSort (PySem.W.dataLe false fun b : V × D => toP b.2)).map fun b => b.1) (sortD0 ds) := by
      have e2 : sortD0 ds = ((xs.zip ds).mergeSort (PySem.W.dataLe false fun b : V × D => toP b.2)).map (fun b => b.2) := by
        unfold sortD0
        rw [isort_dl, List.map_mergeSort (r := PySem.W.dataLe false fun b : V × D => toP b.2) (s := PySem.W.dataLe false toP) (f := fun b : V × D => b.2) (fun a _ b _ => rfl), zip_snd hx.length]
      rw [e2]
      exact rpL_map fun b hb => zip_rp hx b ((List.mergeSort_perm _ _).mem_iff.mp hb)
    have lz : (((xs.zip ds).mergeSort (PySem.W.dataLe false fun b : V × D => toP b.2)).map fun b => b.1).length ≤ sizeLine := by
      rw [List.length_map, List.length_mergeSort, lb, sizeLine_eq]; omega
    have I1 : Inv X pn st H { sh with heap := h1, toks := tk } := I.kept old
    exact ⟨.ref dA, _, I1.laid (t' := tk) (o := .lst (((xs.zip ds).mergeSort (PySem.W.dataLe false fun b : V × D => toP b.2)).map fun b => b.1)) new le ⟨lz, out, e, vo, at_⟩, rfl, q _ _ (I1.hok.fresh le) po⟩
theorem cr_sortM (hu : X.A.units + 65 < cLine) (calm : X.calm = true) : CallR X (.builtin "sorted") (rSortM X.K) := by
  intro pn sh st H vs us Q I rel q
  obtain ⟨d, rfl, q⟩ := q
  obtain rfl := Vals.ref1 rel
  rcases q with ⟨kvs, rd, q⟩ | ⟨kvs, rd, q⟩
  · obtain ⟨z, nm, ws, rk, dd⟩ := dk_rd I.hok rd
    obtain ⟨es, ep, raw, sz, ent⟩ := dd.raw
    have lw : ws.length = kvs.length := rk.length.symm
    refine sort_src hu I calm nm raw (fun vs lv pv => ?_) q
    have key : ∀ (j : Nat) (kv : Key × V), kvs[j]? = some kv → ∀ v, vs[j]? = some v → RelV (kV kv.1) v := fun j kv ek v ev => by
      obtain ⟨hi, rfl⟩ := pv j v ev
      obtain ⟨w, ew, r1, r2⟩ := paired_get rk ek
      obtain ⟨k1, k2⟩ := ent j hi w.1 w.2 (by rw [ew])
      rw [r1]
      exact keyIs_rel k1
    exact vals_of (by rw [List.length_map, lv, sz, lw]) fun j x v ex ev => by
      rw [List.getElem?_map, Option.map_eq_some_iff] at ex
      obtain ⟨kv, ek, rfl⟩ := ex
      exact key j kv ek v ev
  · obtain ⟨z, nm, ws, rk, dd⟩ := dt_rd I.hok rd
    obtain ⟨es, ep, raw, sz, ent⟩ := dd.raw
    have lw : ws.length = kvs.length := (Paired.length rk).symm
    refine sort_src hu I calm nm raw (xs := (ws.map fun w => w.2.1).map V.ref) (fun vs lv pv => ?_) (q _ ?_)
    · exact vals_of (by rw [List.length_map, List.length_map, lv, sz]) fun j x v ex ev => by
        rw [List.getElem?_map, Option.map_eq_some_iff] at ex
        obtain ⟨a, ea, rfl⟩ := ex
        rw [List.getElem?_map, Option.map_eq_some_iff] at ea
        obtain ⟨w, ew, rfl⟩ := ea
        obtain ⟨hi, rfl⟩ := pv j v ev
        obtain ⟨y, ey, k1, _⟩ := ent j hi
        rw [ew] at ey
        cases ey
        exact k1
    · clear q ent sz lw raw dd rd z
      induction rk with
      | nil => exact .nil
      | cons hq t ih => exact .cons (by rw [← hq.1] at *; exact hq.2.1) ih
/-- all tuples lie still -/
def Gt (G H : Hp) : Hp := fun b => match G b with
  | some o => some o
  | none => match H b with
    | some (.tup xs) => some (.tup xs)
    | _ => none
theorem grow_Gt {G H : Hp} (s : Hst C G H) : Grow G H (Gt G H) H := by
  refine ⟨fun b o e => by unfold Gt; rw [e], Same.refl _, fun b o e => ?_, fun b ps e => ?_, fun b hw z => ?_⟩
  · unfold Gt at e
    cases g : G b with
    | some u => rw [g] at e; cases e; exact s.sub b _ g
    | none =>
      rw [g] at e
      simp only at e
      split at e
      · rename_i xs hx; cases e; exact hx
      · cases e
  · unfold Gt at e
    cases g : G b with
    | some u => rw [g] at e; cases e; exact s.gnt b ps g
    | none =>
      rw [g] at e
      simp only at e
      split at e <;> cases e
  · unfold Gt
    rw [z]
    simp only
    split
    · rename_i xs hx; rw [hx] at hw; exact hw.elim
    · rfl
theorem Gt_tup {G H : Hp} (s : Hst C G H) {b : Addr} {xs : List V} (h : H b = some (.tup xs)) : Gt G H b = some (.tup xs) := by
  unfold Gt
  cases g : G b with
  | some u => simp only; rw [← s.sub b u g, h]
  | none => simp only; rw [h]
theorem rp_keys {K : PySem.W.Frag} {G : Hp} : ∀ ks : List Key, RpL K G (ks.map kV) (ks.map keyD)
  | [] => .nil
  | k :: ks => .cons (by cases k <;> constructor) (rp_keys ks)
theorem rpK_keys {K : PySem.W.Frag} {G : Hp} : ∀ {kvs : List (Key × V)} {es : List (D × D)}, RpK K G kvs es → RpL K G (kvs.map fun p => kV p.1) (es.map (·.1))
  | _, _, .nil => .nil
  | _, _, .cons (k := k) _ t => .cons (by cases k <;> constructor) (rpK_keys t)
theorem rpT_keys {K : PySem.W.Frag} {G G' : Hp} : ∀ {kvs : List (List Key × V)} {es : List (D × D)} {as : List Addr}, RpT K G kvs es → Paired (fun a (kv : List Key × V) => G' a = some (.tup (kv.1.map kV))) as kvs → RpL K G' (as.map V.ref) (es.map (·.1))
  | _, _, _, .nil, .nil => .nil
  | _, _, _, .cons _ t, .cons h u => .cons (.tup h (rp_keys _)) (rpT_keys t u)
def gSortG (d : D) : Option D := match d with
  | .dct _ es => if okSort ((es.map (·.1)).map toP) then some (.lst (sortD0 (es.map (·.1)))) else none
  | d => gSort d
def rSortG (K : PySem.W.Frag) : List V → Hp → VK → Prop := fun vs H Q => rSortD K vs H Q ∨ rSortM K vs H Q
theorem cr_sortG (hu : X.A.units + 65 < cLine) (calm : X.calm = true := by rfl) : CallR X (.builtin "sorted") (rSortG X.K) := fun pn sh st H vs us Q I rel q => q.elim (fun q => cr_sortD hu pn sh st H vs us Q I rel q) fun q => cr_sortM hu calm pn sh st H vs us Q I rel q
theorem paired_up {α β : Type} {R S : α → β → Prop} (h : ∀ a b, R a b → S a b) : ∀ {as : List α} {bs : List β}, Paired R as bs → Paired S as bs
  | _, _, .nil => .nil
  | _, _, .cons x t => .cons (h _ _ x) (paired_up h t)
theorem d_sortG : CallD C (rSortG C.K) (b1 gSortG) := by
  intro G H vs ds d Q s h e k
  by_cases z : ∃ t es, ds = [.dct t es]
  · obtain ⟨t, es, rfl⟩ := z
    cases h with
    | cons h1 h2 =>
      cases h2
      rw [ev_b1] at e
      simp only [gSortG] at e
      split at e
      · rename_i ok
        cases e
        right
        have gr := grow_Gt s
        have fin : ∀ (G1 : Hp), Grow G H G1 H → ∀ p ys, H p = none → RpL C.K G1 ys (sortD0 (es.map (·.1))) → Q (.ref p) (upd H p (.lst ys)) := fun G1 g1 p ys hp py => by
          have lay := Grow.lay (o := .lst ys) g1.sub g1.gnt hp (fun ps z => by cases z)
          exact k _ _ _ (g1.trans lay) (.lst upd_same (py.up lay.g))
        cases h1 with
        | dK g p => exact ⟨_, rfl, .inl ⟨_, .inr ⟨_, s.sub _ _ g⟩, G, es.map (·.1), s.sub, rpK_keys p, ok, fin G (Grow.refl s)⟩⟩
        | dT g p => exact ⟨_, rfl, .inr ⟨_, .inr ⟨_, s.sub _ _ g⟩, fun as pa => ⟨Gt G H, es.map (·.1), gr.sub, rpT_keys (G' := Gt G H) p (paired_up (S := fun a (kv : List Key × V) => Gt G H a = some (.tup (kv.1.map kV))) (fun a b q => Gt_tup s q) pa), ok, fin _ gr⟩⟩⟩
      · cases e
  · left
    have e2 : b1 gSort ds = some d := by
      cases ds with
      | nil => cases e
      | cons x l =>
        cases l with
        | cons _ _ => cases e
        | nil =>
          rw [ev_b1] at e ⊢
          cases x <;> first | exact e | exact absurd ⟨_, _, rfl⟩ z
    exact d_sort G H vs ds d Q s h e2 k
end
end DL

/-! More steps for the plain law. -/
namespace DL
open PySem PySem.Spec PyProof.Rows L2
theorem and_ok {a b : ME} {r r1 r2 : DEnv} {x y : Bool} (ha : a r = .ok (.bl x) r1) (hb : x = true → b r1 = .ok (.bl y) r2) (hx : x = false → r1 = r2) : mAnd a b r = .ok (.bl (x && y)) r2 := by
  cases x with
  | true => simp only [mAnd, ha, bindE, hb rfl, Bool.true_and]
  | false => simp only [mAnd, ha, bindE, hx rfl, Bool.false_and]
theorem and_f {a b : ME} {r r1 : DEnv} (ha : a r = .ok (.bl false) r1) : mAnd a b r = .ok (.bl false) r1 := by simp only [mAnd, ha, bindE]
theorem and_t {a b : ME} {r r1 : DEnv} {x : ER} (ha : a r = .ok (.bl true) r1) (hb : b r1 = x) : mAnd a b r = x := by simp only [mAnd, ha, bindE, hb]
theorem or_t {a b : ME} {r r1 : DEnv} (ha : a r = .ok (.bl true) r1) : mOr a b r = .ok (.bl true) r1 := by simp only [mOr, ha, bindE]
theorem or_f {a b : ME} {r r1 : DEnv} {x : ER} (ha : a r = .ok (.bl false) r1) (hb : b r1 = x) : mOr a b r = x := by simp only [mOr, ha, bindE, hb]
theorem or_ok {a b : ME} {r r1 r2 : DEnv} {x y : Bool} (ha : a r = .ok (.bl x) r1) (hb : x = false → b r1 = .ok (.bl y) r2) (hx : x = true → r1 = r2) : mOr a b r = .ok (.bl (x || y)) r2 := by
  cases x with
  | false => simp only [mOr, ha, bindE, hb rfl, Bool.false_or]
  | true => simp only [mOr, ha, bindE, hx rfl, Bool.true_or]
theorem not_ok {a : ME} {r r1 : DEnv} {x : Bool} (ha : a r = .ok (.bl x) r1) : mNot a r = .ok (.bl (!x)) r1 := by simp only [mNot, mUn, ha, bindE, gNot, optE]
theorem or_ff {a b : ME} {r r1 r2 : DEnv} (ha : a r = .ok (.bl false) r1) (hb : b r1 = .ok (.bl false) r2) : mOr a b r = .ok (.bl false) r2 := or_f ha hb
theorem un_ok {g : D → Option D} {a : ME} {r r1 : DEnv} {x d : D} (ha : a r = .ok x r1) (hg : g x = some d) : mUn g a r = .ok d r1 := by simp only [mUn, ha, bindE, hg, optE]
theorem noX_ok {m : ME} {r r1 : DEnv} {d : D} (h : m r = .ok d r1) : noX m r = .ok d r1 := by simp only [noX, h]
theorem mif_t {t a b : ME} {r r1 : DEnv} {x : ER} (h : t r = .ok (.bl true) r1) (h2 : a r1 = x) : mIf t a b r = x := by simp only [mIf, h, bindE, h2]
theorem mif_f {t a b : ME} {r r1 : DEnv} {x : ER} (h : t r = .ok (.bl false) r1) (h2 : b r1 = x) : mIf t a b r = x := by simp only [mIf, h, bindE, h2]
theorem acons_ok {a : ME} {b : MA} {r r1 r2 : DEnv} {x : D} {l : List D} (ha : a r = .ok x r1) (hb : b r1 = .ok l r2) : aCons a b r = .ok (x :: l) r2 := by simp only [aCons, ha, hb]
theorem anil_ok {r : DEnv} : aNil r = .ok [] r := rfl
theorem ags_ok {g : List D → Option D} {a : MA} {r r1 : DEnv} {l : List D} {d : D} (h : a r = .ok l r1) (hg : g l = some d) : mAgs g a r = .ok d r1 := by simp only [mAgs, h, hg, optE]
theorem ags2_ok {g : D → D → Option D} {a b : ME} {r r1 r2 : DEnv} {x y d : D} (ha : a r = .ok x r1) (hb : b r1 = .ok y r2) (hg : g x y = some d) : mAgs (b2 g) (aCons a (aCons b aNil)) r = .ok d r2 := by
  simp only [mAgs, aCons, ha, hb, aNil, b2, b1, hg, optE]
theorem tup_ok {a : MA} {r r1 : DEnv} {l : List D} (h : a r = .ok l r1) (hl : l.length ≤ 16777216) : mAgs gTupD a r = .ok (.tup l) r1 := ags_ok h (by simp [hl])
theorem lst_ok {a : MA} {r r1 : DEnv} {l : List D} (h : a r = .ok l r1) (hl : l.length ≤ 16777216) : mAgs gLstD a r = .ok (.lst l) r1 := ags_ok h (by simp [hl])
theorem tup2_ok {a b : ME} {r r1 r2 : DEnv} {x y : D} (ha : a r = .ok x r1) (hb : b r1 = .ok y r2) : mAgs gTupD (aCons a (aCons b aNil)) r = .ok (.tup [x, y]) r2 := tup_ok (acons_ok ha (acons_ok hb anil_ok)) (by simp)
theorem tup4_ok {a b c d : ME} {r : DEnv} {x y z w : D} (ha : a r = .ok x r) (hb : b r = .ok y r) (hc : c r = .ok z r) (hd : d r = .ok w r) : mAgs gTupD (aCons a (aCons b (aCons c (aCons d aNil)))) r = .ok (.tup [x, y, z, w]) r := tup_ok (acons_ok ha (acons_ok hb (acons_ok hc (acons_ok hd anil_ok)))) (by simp)
theorem seq_rt {a b : MS} {r r1 : DEnv} {d : D} (h : a r = .rt d r1) : sSeq a b r = .rt d r1 := by simp only [sSeq, h]
theorem seq_exc {a b : MS} {r : DEnv} {c : Str} {fs : List (Str × D)} (h : a r = .exc c fs) : sSeq a b r = .exc c fs := by simp only [sSeq, h]
theorem seq_x {a b : MS} {r : DEnv} {x : SR} (h : a r = x) (hx : ∀ r, x ≠ .nx r) : sSeq a b r = x := by
  unfold sSeq
  rw [h]
  cases x <;> first | rfl | exact absurd rfl (hx _)
theorem nil_ok {r : DEnv} : sNil r = .nx r := rfl
theorem exp_ok {a : ME} {r r1 : DEnv} {d : D} (h : a r = .ok d r1) : sExp a r = .nx r1 := by simp only [sExp, h]
theorem app_ok {i : Nat} {m : ME} {r : DEnv} {l : List D} {d : D} (hi : r[i]? = some (.own false l)) (hm : m r = .ok d r) (hl : l.length < 16777216) : sApp i m r = .nx (r.set i (.own false (l ++ [d]))) := by simp only [sApp, hi, hm, hl, if_true]
theorem lenO_ok {i : Nat} {r : DEnv} {k : Bool} {l : List D} (h : r[i]? = some (.own k l)) : mLenO i r = .ok (.int l.length) r := by simp only [mLenO, h]
theorem insS_ok {i : Nat} {mj m : ME} {r : DEnv} {l : List D} {d : D} {j : Int} (hi : r[i]? = some (.own false l)) (hj : mj r = .ok (.int j) r) (hm : m r = .ok d r) (hc : l.length < 16777216 ∧ 0 ≤ j ∧ j < 2 ^ 63) : sIns i mj m r = .nx (r.set i (.own false (l.take j.toNat ++ [d] ++ l.drop j.toNat))) := by
  simp only [sIns, hi, hj, hm, hc, if_true, and_self]
theorem dputX_ok {i : Nat} {mk mv : ME} {r : DEnv} {t : Bool} {es es' : List (D × D)} {y d : D} (hv : mv r = .ok d r) (hi : r[i]? = some (.ownD t es)) (hk : mk r = .ok y r) (hp : putT t es y d = some es') (hl : es.length < 16777216) : sDPutX i mk mv r = .nx (r.set i (.ownD t es')) := by
  simp only [sDPutX, hv, hi, hk, hp, hl, if_true]
theorem runI_ok {c : Str} {M : MS} {n k : Nat} {ds : List D} {r rest : DEnv} {fs : List (Str × D)} (hn : ds.length + 1 = n) (he : .ownI c [] :: ds.map .dat ++ List.replicate k .un = r) (h : M r = .nx (.ownI c fs :: rest)) : runI c M n k ds = .ok fs := by
  simp only [runI, hn, he, h, if_true]
theorem run_exc {M : MS} {n k : Nat} {ds : List D} {c : Str} {fs : List (Str × D)} {r : DEnv} (hn : ds.length = n) (he : ds.map .dat ++ List.replicate k .un = r) (h : M r = .exc c fs) : runF M n k ds = .exc c fs := by
  simp only [runF, hn, he, h, if_true]
theorem call_own {F : List D → FR} {a : MA} {r r1 : DEnv} {l ds : List D} (ha : a r = .ok ds r1) (hF : F ds = .own l) : mCall F a r = .ok (.lst l) r1 := by simp only [mCall, ha, hF]
theorem call_exc {F : List D → FR} {a : MA} {r r1 : DEnv} {c : Str} {fs : List (Str × D)} {ds : List D} (ha : a r = .ok ds r1) (hF : F ds = .exc c fs) : mCall F a r = .exc c fs := by simp only [mCall, ha, hF]
theorem meth_exc {c m : Str} {F : List D → FR} {o : ME} {a : MA} {r r0 r1 : DEnv} {x : D} {ds : List D} {c2 : Str} {fs : List (Str × D)} (ho : o r = .ok x r0) (hi : isObj c m x = true) (ha : a r0 = .ok ds r1) (hF : F (x :: ds) = .exc c2 fs) : mMeth c m F o a r = .exc c2 fs := by
  simp only [mMeth, ho, hi, ha, hF, if_true]
theorem asg_exc {i : Nat} {a : ME} {r : DEnv} {c : Str} {fs : List (Str × D)} (h : a r = .exc c fs) : sAsg i a r = .exc c fs := by simp only [sAsg, h]
theorem raise_ok {x : Str} {fs : List Str} {m : MA} {r r1 : DEnv} {ds : List D} (h : m r = .ok ds r1) (hl : ds.length = fs.length) : sRaise x fs m r = .exc x (fs.zip ds).reverse := by simp only [sRaise, h, hl, if_true]
theorem it_ok {g : List D → Option (List D)} {a : MA} {r r1 : DEnv} {ds l : List D} (h : a r = .ok ds r1) (hg : g ds = some l) : mIt g a r = .ok l r1 := by simp only [mIt, h, hg]
theorem frz_ok' {i : Nat} {a : MS} {r : DEnv} {k : Bool} {l : List D} {x : SR} (hi : r[i]? = some (.own k l)) (h : a (r.set i (.dat (.lst l))) = x) (hk : sFrz i a r = a (r.set i (.dat (.lst l)))) : sFrz i a r = x := hk.trans h
theorem blsD_map (l : List Bool) : blsD (l.map .bl) = some l := by
  induction l with
  | nil => rfl
  | cons b l ih => simp only [List.map_cons, blsD, ih, Option.map_some]
theorem all_map {α : Type} (p : α → Bool) (l : List α) : gAll (.lst (l.map fun x => .bl (p x))) = some (.bl (l.all p)) := by
  have : l.map (fun x => D.bl (p x)) = (l.map p).map .bl := by simp [List.map_map]
  simp only [gAll, this, blsD_map, Option.map_some]
  congr 2
  rw [List.all_map]
  rfl
theorem forL_cons {g : GD} {b : MS} {d : D} {l : List D} {r r1 r2 : DEnv} {x : SR} (h1 : g d r = some r1) (h2 : b r1 = .nx r2) (h3 : forL g b l r2 = x) : forL g b (d :: l) r = x := by simp only [forL, h1, h2, h3]
theorem forL_nil {g : GD} {b : MS} {r : DEnv} : forL g b [] r = .nx r := rfl
theorem forL_rt {g : GD} {b : MS} {d : D} {l : List D} {r r1 r2 : DEnv} {v : D} (h1 : g d r = some r1) (h2 : b r1 = .rt v r2) : forL g b (d :: l) r = .rt v r2 := by simp only [forL, h1, h2]
theorem forL_exc {g : GD} {b : MS} {d : D} {l : List D} {r r1 : DEnv} {c : Str} {fs : List (Str × D)} (h1 : g d r = some r1) (h2 : b r1 = .exc c fs) : forL g b (d :: l) r = .exc c fs := by simp only [forL, h1, h2]
theorem zip_self : ∀ l : List D, zipD l l = l.map fun d => .tup [d, d]
  | [] => rfl
  | d :: l => by simp only [zipD, List.map_cons, zip_self l]
end DL

/-! A walk through a meaning, step by step: `ev [facts]`. -/
namespace DL
open PySem PySem.Spec PyProof.Rows L2
theorem mv_ok {i : Nat} {r : DEnv} {d : D} (h : r[i]? = some (.dat d)) : mV i r = .ok d r := by simp only [mV, h]
theorem mc_ok {d : D} {r : DEnv} : mC d r = .ok d r := rfl
theorem yes_ok {r : DEnv} : mYes r = .ok (.bl true) r := rfl
theorem if_b {c : ME} {a b : MS} {r r1 : DEnv} {t : Bool} {x : SR} (h : c r = .ok (.bl t) r1) (h2 : (bif t then a r1 else b r1) = x) : sIf c a b r = x := by
  cases t <;> simp only [sIf, h] <;> exact h2
theorem mif_b {c a b : ME} {r r1 : DEnv} {t : Bool} {x : ER} (h : c r = .ok (.bl t) r1) (h2 : (bif t then a r1 else b r1) = x) : mIf c a b r = x := by
  cases t <;> simp only [mIf, h, bindE] <;> exact h2
theorem and_b {a b : ME} {r r1 : DEnv} {t : Bool} {x : ER} (h : a r = .ok (.bl t) r1) (h2 : (bif t then b r1 else .ok (.bl false) r1) = x) : mAnd a b r = x := by
  cases t <;> simp only [mAnd, h, bindE] <;> exact h2
theorem or_b {a b : ME} {r r1 : DEnv} {t : Bool} {x : ER} (h : a r = .ok (.bl t) r1) (h2 : (bif t then .ok (.bl true) r1 else b r1) = x) : mOr a b r = x := by
  cases t <;> simp only [mOr, h, bindE] <;> exact h2
theorem bif_t {α : Type} {a b x : α} (h : a = x) : (bif true then a else b) = x := h
theorem bif_f {α : Type} {a b x : α} (h : b = x) : (bif false then a else b) = x := h
theorem asgT_ok {g : GD} {a : ME} {r r1 r2 : DEnv} {d : D} (h : a r = .ok d r1) (hg : g d r1 = some r2) : sAsgT g a r = .nx r2 := by simp only [sAsgT, h, hg]
theorem vcons_ok {a : ME} {b : MV} {r r1 r2 : DEnv} {x : D} {l : List AV} (ha : a r = .ok x r1) (hb : b r1 = .ok l r2) : vCons a b r = .ok (.d x :: l) r2 := by simp only [vCons, ha, hb]
theorem vconsO_ok {a : MA} {b : MV} {r r1 r2 : DEnv} {x : List D} {l : List AV} (ha : a r = .ok x r1) (hb : b r1 = .ok l r2) : vConsO a b r = .ok (.o x :: l) r2 := by simp only [vConsO, ha, hb]
theorem vconsM_ok {t : Bool} {b : MV} {r r2 : DEnv} {l : List AV} (hb : b r = .ok l r2) : vConsM t b r = .ok (.m t :: l) r2 := by simp only [vConsM, hb]
theorem vnil_ok {r : DEnv} : vNil r = .ok [] r := rfl
theorem par2_ok {i j : Nat} {a : MV} {r r1 : DEnv} {x y : AV} (h : a r = .ok [x, y] r1) : sParV2 i j a r = .nx ((r1.set i x.sl).set j y.sl) := by simp only [sParV2, h]
theorem par3_ok {i j l : Nat} {a : MV} {r r1 : DEnv} {x y z : AV} (h : a r = .ok [x, y, z] r1) : sParV3 i j l a r = .nx (((r1.set i x.sl).set j y.sl).set l z.sl) := by simp only [sParV3, h]
theorem parT_ok {is : List Nat} {a : MV} {r r1 : DEnv} {l : List AV} (h : a r = .ok l r1) (hl : l.length = is.length ∧ l.length ≤ 1000) : sParT is a r = .nx (setAll is l r1) := by
  unfold sParT
  rw [h]
  exact if_pos hl
theorem short_ok {m : MA} {r r1 : DEnv} {l : List D} (h : m r = .ok l r1) (hl : l.length ≤ 16777216) : mShort m r = .ok l r1 := by simp only [mShort, h, short, hl, decide_true, if_true]
theorem asgO_ok {i : Nat} {m : MA} {r r1 : DEnv} {l : List D} (h : m r = .ok l r1) : sAsgO i m r = .nx (r1.set i (.own false l)) := by simp only [sAsgO, h]
theorem frzS_ok {i : Nat} {a : MS} {r : DEnv} {l : List D} {x : SR} (hi : r[i]? = some (.own false l)) (h : a (r.set i (.dat (.lst l))) = x) : sFrz i a r = x := by simp only [sFrz, hi, h]
theorem frzD_ok {i : Nat} {a : MS} {r : DEnv} {t : Bool} {l : List (D × D)} {x : SR} (hi : r[i]? = some (.ownD t l)) (h : a (r.set i (.dat (.dct t l))) = x) : sFrzD i a r = x := by simp only [sFrzD, hi, h]
theorem retOwn_ok {i : Nat} {r : DEnv} {l : List D} (h : r[i]? = some (.own false l)) : sRetOwn i r = .rtO l (r.set i .un) := by simp only [sRetOwn, h]
/-- a value of an operation -/
def IsV (a : Option D) (d : D) : Prop := a = some d
theorem isv_of {a : Option D} {d : D} (h : a = some d) : IsV a d := h
theorem isv_rfl {d : D} : IsV (some d) d := rfl
theorem isv_mul {i j : Int} (h : (decide (-(2 ^ 64) < i) && decide (i < 2 ^ 64)) = true) : IsV (iMul (.int i) (.int j)) (.int (i * j)) := by
  simp only [Bool.and_eq_true, decide_eq_true_eq] at h
  exact if_pos (.inl h)
theorem isv_mul2 {i j : Int} (h : (decide (-(2 ^ 64) < j) && decide (j < 2 ^ 64)) = true) : IsV (iMul (.int i) (.int j)) (.int (i * j)) := by
  simp only [Bool.and_eq_true, decide_eq_true_eq] at h
  exact if_pos (.inr h)
theorem isv_mod {i j : Int} (h : decide (0 < j) = true) : IsV (iMod (.int i) (.int j)) (.int (i % j)) := if_pos (of_decide_eq_true h)
theorem op_w {g : D → D → Option D} {a b : ME} {r r1 r2 : DEnv} {x y d : D} (ha : a r = .ok x r1) (hb : b r1 = .ok y r2) (hg : IsV (g x y) d) : mOp g a b r = .ok d r2 := op_ok ha hb hg
theorem un_w {g : D → Option D} {a : ME} {r r1 : DEnv} {x d : D} (ha : a r = .ok x r1) (hg : IsV (g x) d) : mUn g a r = .ok d r1 := un_ok ha hg
theorem ags1_w {g : D → Option D} {a : ME} {r r1 : DEnv} {x d : D} (h : a r = .ok x r1) (hg : IsV (g x) d) : mAgs (b1 g) (aCons a aNil) r = .ok d r1 := ags1_ok h hg
theorem ags2_w {g : D → D → Option D} {a b : ME} {r r1 r2 : DEnv} {x y d : D} (ha : a r = .ok x r1) (hb : b r1 = .ok y r2) (hg : IsV (g x y) d) : mAgs (b2 g) (aCons a (aCons b aNil)) r = .ok d r2 := ags2_ok ha hb hg
/-- a value of a call -/
def IsF (a b : FR) : Prop := a = b
theorem isf_of {a b : FR} (h : a = b) : IsF a b := h
theorem call_w {F : List D → FR} {a : MA} {r r1 : DEnv} {d : D} {ds : List D} (ha : a r = .ok ds r1) (hF : IsF (F ds) (.ok d)) : mCall F a r = .ok d r1 := call_ok ha hF
theorem meth_w {c m : Str} {F : List D → FR} {o : ME} {a : MA} {r r0 r1 : DEnv} {x d : D} {ds : List D} (ho : o r = .ok x r0) (hi : isObj c m x = true) (ha : a r0 = .ok ds r1) (hF : IsF (F (x :: ds)) (.ok d)) : mMeth c m F o a r = .ok d r1 := meth_ok ho hi ha hF
/-- how many -/
def Few (l : List D) : Prop := l.length ≤ 16777216
theorem few_of {l : List D} (h : l.length ≤ 16777216) : Few l := h
theorem few_lit {l : List D} (h : Nat.ble l.length 16777216 = true) : Few l := Nat.le_of_ble_eq_true h
theorem tup_w {a : MA} {r r1 : DEnv} {l : List D} (h : a r = .ok l r1) (hl : Few l) : mAgs gTupD a r = .ok (.tup l) r1 := tup_ok h hl
theorem lst_w {a : MA} {r r1 : DEnv} {l : List D} (h : a r = .ok l r1) (hl : Few l) : mAgs gLstD a r = .ok (.lst l) r1 := lst_ok h hl
theorem short_w {m : MA} {r r1 : DEnv} {l : List D} (h : m r = .ok l r1) (hl : Few l) : mShort m r = .ok l r1 := short_ok h hl
theorem app_w {i : Nat} {m : ME} {r : DEnv} {l : List D} {d : D} (hi : r[i]? = some (.own false l)) (hm : m r = .ok d r) (hl : Few (l ++ [d])) : sApp i m r = .nx (r.set i (.own false (l ++ [d]))) := app_ok hi hm (by simp [Few] at hl; omega)
theorem ext_w {i : Nat} {m : ME} {r : DEnv} {l l2 : List D} (hi : r[i]? = some (.own false l)) (hm : m r = .ok (.lst l2) r) (hl : Few (l ++ l2)) : sExt i m r = .nx (r.set i (.own false (l ++ l2))) := by
  have h2 : l.length + l2.length ≤ 16777216 := by simpa [Few] using hl
  simp only [sExt, hi, hm, h2, if_true]
end DL

/-! == where empty dicts stand, outside and inside. -/
namespace DL
open PySem PySem.Spec PyProof.Rows L2 LamX
section
variable {X : Cx} {C : Fc} {E : XK}
def rEqX (K : PySem.W.Frag) : R2 := fun x y H Q => ∃ G d e b, Same G H ∧ Rp K G x d ∧ Rp K G y e ∧ eqX 20 d e = some b ∧ Q (.bl b) H
theorem op_eqX (hu : X.A.units + 128 < cLine) : OpR X (compareOp .Eq) (rEqX X.K) := by
  intro pins s σ H x y v u Q I rx ry h
  obtain ⟨G, d, e, b, sub, pd, pe, ex, q⟩ := h
  unfold eqX at ex
  by_cases ok : (okEq d && okEq e) = true
  · rw [if_pos ok] at ex
    cases ex
    simp only [Bool.and_eq_true] at ok
    obtain ⟨as, r1⟩ := ok_reads I sub pd rx ok.1
    obtain ⟨bs, r2⟩ := ok_reads I sub pe ry ok.2
    exact SeqAt.compareEq_shaped r1 r2 ok.1 ok.2 (by omega) ⟨.bl _, H, I, rfl, q⟩
  · rw [if_neg ok] at ex
    have ih := eqX_at I sub 19 X.A.in1 (by show X.A.units + 1 + 64 + 19 < cLine; omega)
    split at ex
    · rename_i a b
      by_cases al : allX (eqX 19) a b = true
      · rw [if_pos al] at ex
        cases ex
        cases pd with
        | @tup l xs _ g1 p1 =>
          cases pe with
          | @tup m ys _ g2 p2 =>
            obtain rfl : v = Value.ref l := rx
            obtain rfl : u = Value.ref m := ry
            obtain ⟨us, r1, t1, _⟩ := I.tuple (SqT.of (sub _ _ g1))
            obtain ⟨ws, r2, t2, _⟩ := I.tuple (SqT.of (sub _ _ g2))
            have rc := SeqAt.RcAt.tuples (A := X.A) t1 t2 (by omega) (eqX_items ih al p1 p2 r1 r2)
            have hl : us.toArray.size = ws.toArray.size := by
              rw [List.size_toArray, List.size_toArray, ← r1.length, ← r2.length, p1.length, p2.length, allX_len al]
            rw [hl, Nat.min_self, all_true] at rc
            have ee : (true && ws.toArray.size == ws.toArray.size) = true := by simp
            rw [ee] at rc
            exact rc X.prog X.w _ _ ⟨.bl true, H, I, rfl, q⟩
      · rw [if_neg al] at ex; cases ex
    · rename_i a b
      by_cases al : allX (eqX 19) a b = true
      · rw [if_pos al] at ex
        cases ex
        cases pd with
        | @lst l xs _ g1 p1 =>
          cases pe with
          | @lst m ys _ g2 p2 =>
            obtain rfl : v = Value.ref l := rx
            obtain rfl : u = Value.ref m := ry
            obtain ⟨us, r1, t1, _⟩ := I.list (SqL.of (sub _ _ g1))
            obtain ⟨ws, r2, t2, _⟩ := I.list (SqL.of (sub _ _ g2))
            have hl : us.toArray.size = ws.toArray.size := by
              rw [List.size_toArray, List.size_toArray, ← r1.length, ← r2.length, p1.length, p2.length, allX_len al]
            have rc := SeqAt.RcAt.lists (A := X.A) t1.isList t2.isList hl (by omega) (eqX_items ih al p1 p2 r1 r2)
            rw [all_true] at rc
            exact rc X.prog X.w _ _ ⟨.bl true, H, I, rfl, q⟩
      · rw [if_neg al] at ex; cases ex
    · cases ex
      obtain ⟨a, rfl, n1, d1⟩ := dict0 I sub pd rx
      obtain ⟨b, rfl, n2, d2⟩ := dict0 I sub pe ry
      exact PySem.W.rcP_dicts (r := true) n1 n2 (d1 X.prog X.w) (d2 X.prog X.w) (by omega) (fun _ => .nil) _ _ ⟨.bl true, H, I, rfl, q⟩
    · cases ex
def gEqX (d e : D) : Option D := (eqX 20 d e).map .bl
theorem d_eqX : OpD C (rEqX C.K) gEqX := by
  intro G H v1 v2 d1 d2 d Q s h1 h2 e k
  unfold gEqX at e
  cases q : eqX 20 d1 d2 with
  | none => rw [q] at e; cases e
  | some b =>
    rw [q] at e
    cases e
    exact ⟨G, d1, d2, b, s.sub, h1, h2, q, k _ _ _ (Grow.refl s) (.bl _)⟩
theorem gEqX_ok {d e : D} (h1 : okEq d = true) (h2 : okEq e = true) : gEqX d e = gEq d e := by
  unfold gEqX gEq eqX
  rw [h1, h2]
  rfl
end
end DL

namespace P
open PySem PySem.Spec PyProof.Rows L2 DL LamX
abbrev Pr : Program := PySem.Challenge.pw_loadanywhere_k58_coded_words
def topS (i : Nat) : Stmt := Pr.main.body.getD i (.Pass ⟨0, 0, 0, 0⟩)
def inS (i j : Nat) : Stmt := match topS i with
  | .ClassDef _ _ _ body _ _ _ _ _ _ _ => body.getD j (.Pass ⟨0, 0, 0, 0⟩)
  | _ => .Pass ⟨0, 0, 0, 0⟩
abbrev c_KINDS : D := (.cst [(.str "piece"), (.str "name"), (.str "in")])
abbrev c_LONGEST : D := (.int 8)
abbrev c_LETTERS : D := (.str "abcdefghijklmnopqrstuvwxyz")
abbrev c_WIDEST : D := (.int 64)
abbrev c_CODES_drafts : D := (.cst [(.cst [(.str "ask"), (.int 3)]), (.cst [(.str "go"), (.int 5)]), (.cst [(.str "call"), (.int 14)])])
abbrev c_LOW : D := (.int (-256))
abbrev c_HIGH : D := (.int 255)
abbrev c_CODES_words : D := (.int 32)
abbrev c_FIELDS : D := (.int 8)
abbrev c_STEP : D := (.int 2048)
abbrev excs : List Str := ["BadSum", "BadDraft", "NoName", "BadChoice", "TooLong", "BadField"]
structure Txt (K : PySem.W.Frag) (mg : Str → Option Value) (cls : Str → Addr) : Prop where
  d_law_row : Dfn K mg "_law_row" (topS 44) ["_law_cell_here", "_law_sizes"]
  d_law_some_sum : Dfn K mg "_law_some_sum" (topS 56) ["_law_draw", "_law_k"]
  d_law_with_sums : Dfn K mg "_law_with_sums" (topS 57) ["_law_rows", "_law_draws"]
  d_law_same : Dfn K mg "_law_same" (topS 46) ["_law_found", "_law_due"]
  d_law_cell : Dfn K mg "_law_cell" (topS 45) ["_law_script", "_law_k"]
  d_law_draft : Dfn K mg "_law_draft" (topS 47) ["_law_cell_here", "_law_most", "_law_is_even"]
  d_is_list : Dfn K mg "is_list" (topS 5) ["thing"]
  d_is_integer : Dfn K mg "is_integer" (topS 4) ["thing"]
  d_order_of : Dfn K mg "order_of" (topS 19) ["unknown"]
  d_summed : Dfn K mg "summed" (topS 20) ["number", "pairs"]
  d_is_name : Dfn K mg "is_name" (topS 6) ["thing"]
  d_is_unknown : Dfn K mg "is_unknown" (topS 18) ["thing"]
  d_is_pair_of : Dfn K mg "is_pair_of" (topS 21) ["thing"]
  d_is_sum : Dfn K mg "is_sum" (topS 22) ["thing"]
  d_sum_of : Dfn K mg "sum_of" (topS 23) ["thing"]
  d_as_row : Dfn K mg "as_row" (topS 40) ["thing"]
  d_is_row : Dfn K mg "is_row" (topS 39) ["thing"]
  ini_Draft : InitF K mg "Draft" "Draft.__init__" (inS 41 0) ["self", "rows"]
  d_law_spots : Dfn K mg "_law_spots" (topS 49) ["_law_rows"]
  d_law_branches : Dfn K mg "_law_branches" (topS 48) ["_law_rows"]
  d_law_outs : Dfn K mg "_law_outs" (topS 50) ["_law_rows"]
  d_law_begins : Dfn K mg "_law_begins" (topS 51) ["_law_rows", "_law_far"]
  d_law_ways : Dfn K mg "_law_ways" (topS 52) ["_law_rows", "_law_far"]
  d_law_long : Dfn K mg "_law_long" (topS 53) ["_law_rows", "_law_far"]
  d_law_grown : Dfn K mg "_law_grown" (topS 54) ["_law_rows"]
  d_law_met : Dfn K mg "_law_met" (topS 55) ["_law_ask"]
  d_law_told_sum : Dfn K mg "_law_told_sum" (topS 58) ["_law_number", "_law_factors"]
  d_law_put_in : Dfn K mg "_law_put_in" (topS 59) ["_law_one", "_law_labels", "_law_p"]
  d_law_coded : Dfn K mg "_law_coded" (topS 60) ["_law_rows", "_law_far", "_law_p"]
  m_Draft_branches : MthF K "Draft" "branches" "Draft.branches" (inS 41 4) ["self"]
  m_Draft_leads_out : MthF K "Draft" "leads_out" "Draft.leads_out" (inS 41 5) ["self", "index"]
  m_Draft_out : MthF K "Draft" "out" "Draft.out" (inS 41 6) ["self"]
  m_Draft_checked : MthF K "Draft" "checked" "Draft.checked" (inS 41 8) ["self", "choice"]
  m_Draft_length_of : MthF K "Draft" "length_of" "Draft.length_of" (inS 41 9) ["self", "index", "offset", "choice"]
  m_Draft_begins : MthF K "Draft" "begins" "Draft.begins" (inS 41 10) ["self", "choice"]
  m_Draft_open_ones : MthF K "Draft" "open_ones" "Draft.open_ones" (inS 41 7) ["self"]
  m_Draft_ways : MthF K "Draft" "ways" "Draft.ways" (inS 41 12) ["self", "choice"]
  m_Draft_too_long : MthF K "Draft" "too_long" "Draft.too_long" (inS 41 14) ["self", "choice"]
  d_sum_at : Dfn K mg "sum_at" (topS 27) ["p", "k"]
  d_added : Dfn K mg "added" (topS 24) ["one", "other", "many"]
  d_put : Dfn K mg "put" (topS 25) ["one", "worths"]
  d_is_below : Dfn K mg "is_below" (topS 34) ["thing", "most"]
  d_coded : DfnD K mg "coded" (topS 35) [.int 0, .int 0, .int 0]
  m_Draft_branch_words : MthF K "Draft" "branch_words" "Draft.branch_words" (inS 41 33) ["self", "index", "choice", "p"]
  m_Draft_coded_words : MthF K "Draft" "coded_words" "Draft.coded_words" (inS 41 34) ["self", "p", "choice"]
  cf_Draft : ClsF K "Draft"
  nf_Draft_draft_rows : NoF K "Draft" "draft_rows"
  nf_Draft_labels : NoF K "Draft" "labels"
  n_len : mg "len" = none
  n_int : mg "int" = none
  n_isinstance : mg "isinstance" = none
  n_bool : mg "bool" = none
  n_str : mg "str" = none
  n_list : mg "list" = none
  n_tuple : mg "tuple" = none
  n_dict : mg "dict" = none
  n_all : mg "all" = none
  n_sorted : mg "sorted" = none
  n_range : mg "range" = none
  n_enumerate : mg "enumerate" = none
  n_zip : mg "zip" = none
  n_min : mg "min" = none
  n_set : mg "set" = none
  g_KINDS : ∃ u v, mg "KINDS" = some u ∧ L2.RelV v u ∧ ∀ G, Rp K G v c_KINDS
  g_LONGEST : ∃ u v, mg "LONGEST" = some u ∧ L2.RelV v u ∧ ∀ G, Rp K G v c_LONGEST
  g_LETTERS : ∃ u v, mg "LETTERS" = some u ∧ L2.RelV v u ∧ ∀ G, Rp K G v c_LETTERS
  g_WIDEST : ∃ u v, mg "WIDEST" = some u ∧ L2.RelV v u ∧ ∀ G, Rp K G v c_WIDEST
  g_CODES_drafts : ∃ u v, mg "CODES_drafts" = some u ∧ L2.RelV v u ∧ ∀ G, Rp K G v c_CODES_drafts
  g_LOW : ∃ u v, mg "LOW" = some u ∧ L2.RelV v u ∧ ∀ G, Rp K G v c_LOW
  g_HIGH : ∃ u v, mg "HIGH" = some u ∧ L2.RelV v u ∧ ∀ G, Rp K G v c_HIGH
  g_CODES_words : ∃ u v, mg "CODES_words" = some u ∧ L2.RelV v u ∧ ∀ G, Rp K G v c_CODES_words
  g_FIELDS : ∃ u v, mg "FIELDS" = some u ∧ L2.RelV v u ∧ ∀ G, Rp K G v c_FIELDS
  g_STEP : ∃ u v, mg "STEP" = some u ∧ L2.RelV v u ∧ ∀ G, Rp K G v c_STEP
  k_KINDS : ∃ a o, mg "KINDS" = some (.ref a) ∧ K.lookup a = some o ∧ o.cls = .type "tuple" ∧ o.dict = none ∧ ∀ G, Rp K G (.ref a) c_KINDS
  k_CODES_drafts : ∃ a o, mg "CODES_drafts" = some (.ref a) ∧ K.lookup a = some o ∧ o.cls = .type "tuple" ∧ o.dict = none ∧ ∀ G, Rp K G (.ref a) c_CODES_drafts
  al_put_sums : mg "put_sums" = mg "put"
  nm_BadSum : mg "BadSum" = some (.ref (cls "BadSum"))
  i_BadSum : IniD K (cls "BadSum") "BadSum.__init__" (inS 9 0) ["self", "thing"] ["thing"]
  nm_BadDraft : mg "BadDraft" = some (.ref (cls "BadDraft"))
  i_BadDraft : IniD K (cls "BadDraft") "BadDraft.__init__" (inS 12 0) ["self", "index"] ["index"]
  nm_NoName : mg "NoName" = some (.ref (cls "NoName"))
  i_NoName : IniD K (cls "NoName") "NoName.__init__" (inS 11 0) ["self", "name"] ["name"]
  nm_BadChoice : mg "BadChoice" = some (.ref (cls "BadChoice"))
  i_BadChoice : IniD K (cls "BadChoice") "BadChoice.__init__" (inS 13 0) ["self", "thing"] ["thing"]
  nm_TooLong : mg "TooLong" = some (.ref (cls "TooLong"))
  i_TooLong : IniD K (cls "TooLong") "TooLong.__init__" (inS 15 0) ["self", "index"] ["index"]
  nm_BadField : mg "BadField" = some (.ref (cls "BadField"))
  i_BadField : IniD K (cls "BadField") "BadField.__init__" (inS 10 0) ["self", "name"] ["name"]
  exm_law_met : ∀ c ∈ excs, ∀ y ∈ ([("NoName", "name", ["name"]), ("BadChoice", "choice", ["thing"]), ("TooLong", "long", ["index"])] : Cls), PySem.W.exmOne K (.ref (cls c)) (.ref (cls y.1)) = some (decide (c = y.1))
  clo_law_met : ClsOk K mg cls (defScope (topS 55)) [("NoName", "name", ["name"]), ("BadChoice", "choice", ["thing"]), ("TooLong", "long", ["index"])]
def tabL (tb : Str → Addr × Addr) : List (Addr × Str) := [((tb "law").2, ("law" : Str) ++ ".<locals>." ++ "<lambda>")]
theorem mem_law (tb : Str → Addr × Addr) : ((tb "law").2, ("law" : Str) ++ ".<locals>." ++ "<lambda>") ∈ tabL tb := .head _
structure TxtB (K : PySem.W.Frag) (base : Heap) (mg : Str → Option Value) (tb : Str → Addr × Addr) : Prop where
  tb_law : TabB base mg (tb "law").1 (tb "law").2
  uq : ∀ (P : Addr) (n : Str) (p : Addr × Str), p ∈ tabL tb → p.1 = P → (P, n) ∈ tabL tb → p.2 = n
section
variable {w : World} {K : PySem.W.Frag} {mg : Str → Option Value} {cls : Str → Addr} {base : Heap} {tb : Str → Addr × Addr}
theorem sx_BadSum : FnScope ["self", "thing"] ["self", "thing"] (defScope (inS 9 0)) := ⟨rfl, rfl, rfl, by decide +kernel, rfl, by decide +kernel, by decide +kernel⟩
theorem ox_BadSum (T : Txt K mg cls) : ExcD Pr w K mg base (cls "BadSum") 1 "BadSum" ["thing"] := exc1 T.nm_BadSum T.i_BadSum sx_BadSum
theorem sx_BadDraft : FnScope ["self", "index"] ["self", "index"] (defScope (inS 12 0)) := ⟨rfl, rfl, rfl, by decide +kernel, rfl, by decide +kernel, by decide +kernel⟩
theorem ox_BadDraft (T : Txt K mg cls) : ExcD Pr w K mg base (cls "BadDraft") 1 "BadDraft" ["index"] := exc1 T.nm_BadDraft T.i_BadDraft sx_BadDraft
theorem sx_NoName : FnScope ["self", "name"] ["self", "name"] (defScope (inS 11 0)) := ⟨rfl, rfl, rfl, by decide +kernel, rfl, by decide +kernel, by decide +kernel⟩
theorem ox_NoName (T : Txt K mg cls) : ExcD Pr w K mg base (cls "NoName") 1 "NoName" ["name"] := exc1 T.nm_NoName T.i_NoName sx_NoName
theorem sx_BadChoice : FnScope ["self", "thing"] ["self", "thing"] (defScope (inS 13 0)) := ⟨rfl, rfl, rfl, by decide +kernel, rfl, by decide +kernel, by decide +kernel⟩
theorem ox_BadChoice (T : Txt K mg cls) : ExcD Pr w K mg base (cls "BadChoice") 1 "BadChoice" ["thing"] := exc1 T.nm_BadChoice T.i_BadChoice sx_BadChoice
theorem sx_TooLong : FnScope ["self", "index"] ["self", "index"] (defScope (inS 15 0)) := ⟨rfl, rfl, rfl, by decide +kernel, rfl, by decide +kernel, by decide +kernel⟩
theorem ox_TooLong (T : Txt K mg cls) : ExcD Pr w K mg base (cls "TooLong") 1 "TooLong" ["index"] := exc1 T.nm_TooLong T.i_TooLong sx_TooLong
theorem sx_BadField : FnScope ["self", "name"] ["self", "name"] (defScope (inS 10 0)) := ⟨rfl, rfl, rfl, by decide +kernel, rfl, by decide +kernel, by decide +kernel⟩
theorem ox_BadField (T : Txt K mg cls) : ExcD Pr w K mg base (cls "BadField") 1 "BadField" ["name"] := exc1 T.nm_BadField T.i_BadField sx_BadField
/-! _law_row -/
abbrev s_law_row : Stmt := (topS 44)
def M_law_row_b1 : MS := (sSeq (sApp 2 (mOp iMod (mAgs (b1 gInt) (aCons (mV 0) aNil)) (mV 5)))
  (sAsg 0 (mOp iDiv (mV 0) (mV 5))))
def M_law_row_b2 : MS := (sSeq (sAsg 6 (mOp gAdd (mOp iMod (mAgs (b1 gInt) (aCons (mOp iPow (mOp gAdd (mOp gAdd (mV 3) (mOp iMul (mC (.int 7919)) (mV 4))) (mC (.int 104729))) (mC (.int 5))) aNil)) (mC (.int 2147483647))) (mV 4)))
  (sApp 2 (mOp iMod (mAgs (b1 gInt) (aCons (mOp iMod (mAgs (b1 gInt) (aCons (mOp iMul (mV 6) (mC (.int 40692))) aNil)) (mC (.int 2147483629))) aNil)) (mOp gSub (mV 1) (mV 4)))))
abbrev N_law_row : List Str := ["_law_cell_here", "_law_sizes", "_law_out", "_law_seed", "_law_k", "_law_size", "_law_mixed"]
theorem sc_law_row : FnScope N_law_row ["_law_cell_here", "_law_sizes"] (defScope s_law_row) := ⟨rfl, rfl, rfl, by decide +kernel, rfl, by decide +kernel, by decide +kernel⟩
def M_law_row : MS := (sSeq (sAsgO 2 (mShort aNil))
  (sSeq (sIf (mOp iGe (mV 0) (mOp iPow (mC (.int 10)) (mC (.int 18)))) (sSeq (sFor (mIter (mV 1)) (gN 5) M_law_row_b1)
  (sFrz 2 (sRet (mV 2)))) sNil)
  (sSeq (sAsg 3 (mOp iMod (mAgs (b1 gInt) (aCons (mV 0) aNil)) (mC (.int 2147483647))))
  (sSeq (sFor (mRng1 (aCons (mAgs (b1 gLen) (aCons (mV 1) aNil)) aNil)) (gN 4) M_law_row_b2)
  (sFrz 2 (sRet (mV 2)))))))
def F_law_row : List D → FR := runF M_law_row 2 5
theorem ok_law_row (T : Txt K mg cls) : Df Pr w K mg base 1 "_law_row" (spF K cls F_law_row) :=
  dfF1 N_law_row ["_law_cell_here", "_law_sizes"] M_law_row 2 5 0 rfl rfl T.d_law_row sc_law_row fun f cdv A outer s H G E hr =>
  (s_cons (s_asgO (i := 2) sc_law_row.nd (o_lst a_nil))
  (s_cons (s_if (t_cmp op_ge d_ge (e_v 0) (e_op op_pow d_pow e_int e_int)) (s_cons (s_for po (i_any (e_v 1)) (g_n (i := 5) sc_law_row.nd) (s_cons (s_app (i := 2) (e_op op_mod d_mod (e_ty call_int1 d_int (a_cons (e_v 0) a_nil) T.n_int) (e_v 5)))
  (s_one (s_asg (i := 0) sc_law_row.nd (e_op op_fdiv d_div (e_v 0) (e_v 5))))))
  (s_one (s_frz 2 (s_ret (e_v 2))))) s_nil)
  (s_cons (s_asg (i := 3) sc_law_row.nd (e_op op_mod d_mod (e_ty call_int1 d_int (a_cons (e_v 0) a_nil) T.n_int) e_int))
  (s_cons (s_for po (i_rng1 T.n_range (a_cons (e_b call_len d_len (a_cons (e_v 1) a_nil) T.n_len) a_nil)) (g_n (i := 4) sc_law_row.nd) (s_cons (s_asg (i := 6) sc_law_row.nd (e_op op_addG d_addG (e_op op_mod d_mod (e_ty call_int1 d_int (a_cons (e_op op_pow d_pow (e_op op_addG d_addG (e_op op_addG d_addG (e_v 3) (e_op op_mul d_mul e_int (e_v 4))) e_int) e_int) a_nil) T.n_int) e_int) (e_v 4)))
  (s_one (s_app (i := 2) (e_op op_mod d_mod (e_ty call_int1 d_int (a_cons (e_op op_mod d_mod (e_ty call_int1 d_int (a_cons (e_op op_mul d_mul (e_v 6) e_int) a_nil) T.n_int) e_int) a_nil) T.n_int) (e_sub (u1 hr) (e_v 1) (e_v 4)))))))
  (s_one (s_frz 2 (s_ret (e_v 2))))))))
/-! _law_some_sum -/
abbrev s_law_some_sum : Stmt := (topS 56)
abbrev N_law_some_sum : List Str := ["_law_draw", "_law_k", "_law_some"]
theorem sc_law_some_sum : FnScope N_law_some_sum ["_law_draw", "_law_k"] (defScope s_law_some_sum) := ⟨rfl, rfl, rfl, by decide +kernel, rfl, by decide +kernel, by decide +kernel⟩
def M_law_some_sum : MS := (sSeq (sAsgO 2 (mShort (aCons (mAgs gTupD (aCons (mV 1) (aCons (mAgs gTupD aNil) aNil))) (aCons (mAgs gTupD (aCons (mC (.int 5)) (aCons (mAgs gTupD (aCons (mAgs gTupD (aCons (mAgs gTupD (aCons (mC (.str "name")) (aCons (mC (.str "la")) aNil))) (aCons (mC (.int 1)) aNil))) aNil)) aNil))) (aCons (mAgs gTupD (aCons (mC (.int 0)) (aCons (mAgs gTupD (aCons (mAgs gTupD (aCons (mAgs gTupD (aCons (mC (.str "name")) (aCons (mC (.str "lb")) aNil))) (aCons (mC (.int 2)) aNil))) (aCons (mAgs gTupD (aCons (mAgs gTupD (aCons (mC (.str "name")) (aCons (mC (.str "lc")) aNil))) (aCons (mUn iNeg (mC (.int 1))) aNil))) aNil))) aNil))) aNil)))))
  (sSeq (sApp 2 (mAgs gTupD (aCons (mUn iNeg (mC (.int 3))) (aCons (mAgs gTupD (aCons (mAgs gTupD (aCons (mAgs gTupD (aCons (mC (.str "name")) (aCons (mC (.str "away")) aNil))) (aCons (mC (.int 1)) aNil))) (aCons (mAgs gTupD (aCons (mAgs gTupD (aCons (mC (.str "name")) (aCons (mC (.str "la")) aNil))) (aCons (mUn iNeg (mC (.int 1))) aNil))) aNil))) aNil))))
  (sSeq (sApp 2 (mAgs gTupD (aCons (mOp iMul (mC (.int 2048)) (mV 1)) (aCons (mAgs gTupD (aCons (mAgs gTupD (aCons (mAgs gTupD (aCons (mC (.str "piece")) (aCons (mC (.str "m")) aNil))) (aCons (mUn iNeg (mC (.int 1))) aNil))) (aCons (mAgs gTupD (aCons (mAgs gTupD (aCons (mC (.str "name")) (aCons (mC (.str "ld")) aNil))) (aCons (mC (.int 1)) aNil))) aNil))) aNil))))
  (sSeq (sApp 2 (mAgs gTupD (aCons (mC (.int 7)) (aCons (mAgs gTupD (aCons (mAgs gTupD (aCons (mAgs gTupD (aCons (mC (.str "name")) (aCons (mC (.str "la")) aNil))) (aCons (mC (.int 1)) aNil))) (aCons (mAgs gTupD (aCons (mAgs gTupD (aCons (mC (.str "name")) (aCons (mC (.str "la")) aNil))) (aCons (mUn iNeg (mC (.int 1))) aNil))) aNil))) aNil))))
  (sFrz 2 (sRet (mOp gSub (mOp gAdd (mV 2) (mAgs gLstD (aCons (mAgs gTupD (aCons (mC (.int 1)) (aCons (mAgs gTupD (aCons (mAgs gTupD (aCons (mAgs gTupD (aCons (mC (.str "piece")) (aCons (mC (.str "other")) aNil))) (aCons (mC (.int 3)) aNil))) (aCons (mAgs gTupD (aCons (mAgs gTupD (aCons (mC (.str "name")) (aCons (mC (.str "lb")) aNil))) (aCons (mC (.int 1)) aNil))) aNil))) aNil))) (aCons (mV 1) aNil)))) (mV 0))))))))
def F_law_some_sum : List D → FR := runF M_law_some_sum 2 1
theorem ok_law_some_sum (T : Txt K mg cls) : Df Pr w K mg base 1 "_law_some_sum" (spF K cls F_law_some_sum) :=
  dfF1 N_law_some_sum ["_law_draw", "_law_k"] M_law_some_sum 2 1 0 rfl rfl T.d_law_some_sum sc_law_some_sum fun f cdv A outer s H G E hr =>
  (s_cons (s_asgO (i := 2) sc_law_some_sum.nd (o_lst (a_cons (e_tup (a_cons (e_v 1) (a_cons (e_tup a_nil) a_nil))) (a_cons (e_tup (a_cons e_int (a_cons (e_tup (a_cons (e_tup (a_cons (e_tup (a_cons e_str (a_cons e_str a_nil))) (a_cons e_int a_nil))) a_nil)) a_nil))) (a_cons (e_tup (a_cons e_int (a_cons (e_tup (a_cons (e_tup (a_cons (e_tup (a_cons e_str (a_cons e_str a_nil))) (a_cons e_int a_nil))) (a_cons (e_tup (a_cons (e_tup (a_cons e_str (a_cons e_str a_nil))) (a_cons (e_un un_neg d_neg e_int) a_nil))) a_nil))) a_nil))) a_nil)))))
  (s_cons (s_app (i := 2) (e_tup (a_cons (e_un un_neg d_neg e_int) (a_cons (e_tup (a_cons (e_tup (a_cons (e_tup (a_cons e_str (a_cons e_str a_nil))) (a_cons e_int a_nil))) (a_cons (e_tup (a_cons (e_tup (a_cons e_str (a_cons e_str a_nil))) (a_cons (e_un un_neg d_neg e_int) a_nil))) a_nil))) a_nil))))
  (s_cons (s_app (i := 2) (e_tup (a_cons (e_op op_mul d_mul e_int (e_v 1)) (a_cons (e_tup (a_cons (e_tup (a_cons (e_tup (a_cons e_str (a_cons e_str a_nil))) (a_cons (e_un un_neg d_neg e_int) a_nil))) (a_cons (e_tup (a_cons (e_tup (a_cons e_str (a_cons e_str a_nil))) (a_cons e_int a_nil))) a_nil))) a_nil))))
  (s_cons (s_app (i := 2) (e_tup (a_cons e_int (a_cons (e_tup (a_cons (e_tup (a_cons (e_tup (a_cons e_str (a_cons e_str a_nil))) (a_cons e_int a_nil))) (a_cons (e_tup (a_cons (e_tup (a_cons e_str (a_cons e_str a_nil))) (a_cons (e_un un_neg d_neg e_int) a_nil))) a_nil))) a_nil))))
  (s_one (s_frz 2 (s_ret (e_sub (u1 hr) (e_op op_addG d_addG (e_v 2) (e_lst (a_cons (e_tup (a_cons e_int (a_cons (e_tup (a_cons (e_tup (a_cons (e_tup (a_cons e_str (a_cons e_str a_nil))) (a_cons e_int a_nil))) (a_cons (e_tup (a_cons (e_tup (a_cons e_str (a_cons e_str a_nil))) (a_cons e_int a_nil))) a_nil))) a_nil))) (a_cons (e_v 1) a_nil)))) (e_v 0)))))))))
/-! _law_with_sums -/
abbrev s_law_with_sums : Stmt := (topS 57)
def M_law_with_sums_b1 : MS := (sSeq (sIf (mAnd (mOp gEq (mOp gSub (mV 4) (mC (.int 0))) (mC (.str "words"))) (mOp iGt (mAgs (b1 gLen) (aCons (mOp gSub (mV 4) (mC (.int 1))) aNil)) (mC (.int 0)))) (sAsg 4 (mAgs gTupD (aCons (mC (.str "words")) (aCons (mOp gAdd (mAgs gLstD (aCons (mCall F_law_some_sum (aCons (mOp gSub (mV 1) (mV 3)) (aCons (mV 3) aNil))) aNil)) (mAgs (b1 gLstOf) (aCons (mSl (mOp gSub (mV 4) (mC (.int 1))) (mInt (mC (.int 1))) (mC .non)) aNil))) aNil)))) sNil)
  (sApp 2 (mV 4)))
abbrev N_law_with_sums : List Str := ["_law_rows", "_law_draws", "_law_found", "_law_k", "_law_row_here"]
theorem sc_law_with_sums : FnScope N_law_with_sums ["_law_rows", "_law_draws"] (defScope s_law_with_sums) := ⟨rfl, rfl, rfl, by decide +kernel, rfl, by decide +kernel, by decide +kernel⟩
def M_law_with_sums : MS := (sSeq (sAsgO 2 (mShort aNil))
  (sSeq (sFor (mIt enumOf (aCons (mV 0) aNil)) (gTup2 2 (gsCons (gN 3) (gsCons (gN 4) gsNil))) M_law_with_sums_b1)
  (sFrz 2 (sRet (mV 2)))))
def F_law_with_sums : List D → FR := runF M_law_with_sums 2 3
theorem ok_law_with_sums (T : Txt K mg cls) : Df Pr w K mg base 2 "_law_with_sums" (spF K cls F_law_with_sums) :=
  dfF1 N_law_with_sums ["_law_rows", "_law_draws"] M_law_with_sums 2 3 1 rfl rfl T.d_law_with_sums sc_law_with_sums fun f cdv A outer s H G E hr =>
  (s_cons (s_asgO (i := 2) sc_law_with_sums.nd (o_lst a_nil))
  (s_cons (s_for po (i_enum T.n_enumerate (a_cons (e_v 0) a_nil)) (g_tup (n := 2) (gs_cons (g_n (i := 3) sc_law_with_sums.nd) (gs_cons (g_n (i := 4) sc_law_with_sums.nd) gs_nil))) (s_cons (s_if (PW.pt (t_and (t_cmp (op_eqD hr.units) d_eq (e_sub (u1 hr) (e_v 4) e_int) e_str) (t_and1 (t_cmp op_gt d_gt (e_b call_len d_len (a_cons (e_sub (u1 hr) (e_v 4) e_int) a_nil) T.n_len) e_int)))) (s_one (s_asg (i := 4) sc_law_with_sums.nd (e_tup (a_cons e_str (a_cons (e_op op_addG d_addG (e_lst (a_cons (e_df (ok_law_some_sum T) hr px (a_cons (e_sub (u1 hr) (e_v 1) (e_v 3)) (a_cons (e_v 3) a_nil))) a_nil)) (e_ty call_list_of d_lstOf (a_cons (e_sl (e_sub (u1 hr) (e_v 4) e_int) (pt_some e_int) pt_none) a_nil) T.n_list)) a_nil))))) s_nil)
  (s_one (s_app (i := 2) (e_v 4)))))
  (s_one (s_frz 2 (s_ret (e_v 2))))))
/-! _law_same -/
abbrev s_law_same : Stmt := (topS 46)
abbrev N_law_same : List Str := ["_law_found", "_law_due", "_law_u", "_law_v"]
theorem sc_law_same : FnScope N_law_same ["_law_found", "_law_due"] (defScope s_law_same) := ⟨rfl, rfl, rfl, by decide +kernel, rfl, by decide +kernel, by decide +kernel⟩
def M_law_same (rec : List D → FR) : MS := (sSeq (sIf (mUn gIsiLT (mV 1)) (sSeq (sIf (mOr (mOp gNe (mUn (gIsi .list) (mV 0)) (mUn (gIsi .list) (mV 1))) (mOp gNe (mUn (gIsi .tuple) (mV 0)) (mUn (gIsi .tuple) (mV 1)))) (sRet (mC (.bl false))) sNil)
  (sRet (mAnd (mOp gEq (mAgs (b1 gLen) (aCons (mV 0) aNil)) (mAgs (b1 gLen) (aCons (mV 1) aNil))) (mAgs (b1 gAll) (aCons (mFrz (mLc (mIt zipOf (aCons (mV 0) (aCons (mV 1) aNil))) (gTup2 2 (gsCons (gN 2) (gsCons (gN 3) gsNil))) mYes (mCall rec (aCons (mV 2) (aCons (mV 3) aNil))) [2, 3])) aNil))))) sNil)
  (sSeq (sIf (mUn (gIsi .int) (mV 1)) (sRet (mAnd (mUn (gIsi .int) (mV 0)) (mAnd (mOp gEq (mUn (gIsi .bool) (mV 0)) (mUn (gIsi .bool) (mV 1))) (mOp gEqX (mV 0) (mV 1))))) sNil)
  (sRet (mAnd (mOp gIsB (mUn gIsi3 (mV 0)) (mC (.bl false))) (mOp gEqX (mV 0) (mV 1))))))
def F_law_same : Nat → List D → FR
  | 0 => runF (fun _ => .bad) 2 2
  | n + 1 => runF (M_law_same (F_law_same n)) 2 2
theorem ok_law_same (T : Txt K mg cls) : ∀ n, Df Pr w K mg base (0 + n + 1) "_law_same" (spF K cls (F_law_same n))
  | 0 => dfF1 N_law_same ["_law_found", "_law_due"] (fun _ => .bad) 2 2 (0 + 0) rfl rfl T.d_law_same sc_law_same fun f cdv A outer s H G E hr => s_bad
  | n + 1 => by
    have ih := ok_law_same T n
    exact dfF1 N_law_same ["_law_found", "_law_due"] (M_law_same (F_law_same n)) 2 2 (0 + n + 1) rfl rfl T.d_law_same sc_law_same fun f cdv A outer s H G E hr =>
  (s_cons (s_if (t_val (e_isiLT T.n_isinstance T.n_list T.n_tuple (e_v 1))) (s_cons (s_if (PW.pt (t_or (t_cmp (op_neD hr.units) d_ne (e_isi .list (e_v 0) T.n_isinstance T.n_list) (e_isi .list (e_v 1) T.n_isinstance T.n_list)) (t_or1 (t_cmp (op_neD hr.units) d_ne (e_isi .tuple (e_v 0) T.n_isinstance T.n_tuple) (e_isi .tuple (e_v 1) T.n_isinstance T.n_tuple))))) (s_one (s_ret e_bl)) s_nil)
  (s_one (s_ret (e_and (e_cmp (op_eqD hr.units) d_eq (e_b call_len d_len (a_cons (e_v 0) a_nil) T.n_len) (e_b call_len d_len (a_cons (e_v 1) a_nil) T.n_len)) (e_one (e_b (cr_all rfl) d_all (a_cons (e_frz (o_lc (own := [("_law_u", 2), ("_law_v", 3)]) sc_law_same.nd (i_zip T.n_zip (a_cons (e_v 0) (a_cons (e_v 1) a_nil))) (blkOk_by (N := N_law_same) (sc := defScope s_law_same) (by decide +kernel)) (fun _ _ _ _ _ => (gk_tup (n := 2) (gks_cons (gk_n (i := 2) sc_law_same.nd) (gks_cons (gk_n (i := 3) sc_law_same.nd) gks_nil)))) (fun _ _ _ _ _ => c_yes) (fun _ _ _ _ _ => (e_df ih hr passL (a_cons (e_v 2) (a_cons (e_v 3) a_nil)) (hk := by omega))))) a_nil) T.n_all)))))) s_nil)
  (s_cons (s_if (t_val (e_isi .int (e_v 1) T.n_isinstance T.n_int)) (s_one (s_ret (e_and (e_isi .int (e_v 0) T.n_isinstance T.n_int) (e_and (e_cmp (op_eqD hr.units) d_eq (e_isi .bool (e_v 0) T.n_isinstance T.n_bool) (e_isi .bool (e_v 1) T.n_isinstance T.n_bool)) (e_one (e_cmp (op_eqX (u128 hr)) d_eqX (e_v 0) (e_v 1))))))) s_nil)
  (s_one (s_ret (e_and (e_cmp op_isBl d_isB (e_isi3 T.n_isinstance T.n_int T.n_list T.n_tuple (e_v 0)) e_bl) (e_one (e_cmp (op_eqX (u128 hr)) d_eqX (e_v 0) (e_v 1))))))))
/-! _law_cell -/
abbrev s_law_cell : Stmt := (topS 45)
abbrev N_law_cell : List Str := ["_law_script", "_law_k"]
theorem sc_law_cell : FnScope N_law_cell ["_law_script", "_law_k"] (defScope s_law_cell) := ⟨rfl, rfl, rfl, by decide +kernel, rfl, by decide +kernel, by decide +kernel⟩
def M_law_cell : MS := (sRet (mIf (mOp iLt (mV 1) (mAgs (b1 gLen) (aCons (mV 0) aNil))) (mOp gSub (mV 0) (mV 1)) (mC (.int 0))))
def F_law_cell : List D → FR := runF M_law_cell 2 0
theorem ok_law_cell (T : Txt K mg cls) : Df Pr w K mg base 1 "_law_cell" (spF K cls F_law_cell) :=
  dfF1 N_law_cell ["_law_script", "_law_k"] M_law_cell 2 0 0 rfl rfl T.d_law_cell sc_law_cell fun f cdv A outer s H G E hr =>
  (s_one (s_ret (e_if (t_cmp op_lt d_lt (e_v 1) (e_b call_len d_len (a_cons (e_v 0) a_nil) T.n_len)) (e_sub (u1 hr) (e_v 0) (e_v 1)) e_int)))
/-! _law_draft -/
abbrev s_law_draft : Stmt := (topS 47)
def M_law_draft_b1 : MS := (sSeq (sAsgT (gTup2 4 (gsCons (gN 9) (gsCons (gN 10) (gsCons (gN 11) (gsCons (gN 12) gsNil))))) (mSl (mV 4) (mInt (mOp gAdd (mC (.int 1)) (mOp iMul (mC (.int 4)) (mV 3)))) (mInt (mOp gAdd (mC (.int 5)) (mOp iMul (mC (.int 4)) (mV 3))))))
  (sIf (mAnd (mOp iLt (mV 9) (mC (.int 3))) (mOp iLt (mV 6) (mC (.int 6)))) (sSeq (sAsg 6 (mOp gAdd (mV 6) (mC (.int 1))))
  (sApp 5 (mAgs gTupD (aCons (mC (.str "words")) (aCons (mOp lRep (mAgs gLstD (aCons (mV 3) aNil)) (mOp gSub (mAgs gLstD (aCons (mC (.int 0)) (aCons (mC (.int 1)) (aCons (mC (.int 2)) (aCons (mC (.int 3)) (aCons (mC (.int 40)) (aCons (mC (.int 120)) (aCons (mC (.int 127)) (aCons (mC (.int 128)) (aCons (mC (.int 250)) (aCons (mC (.int 253)) (aCons (mC (.int 254)) (aCons (mC (.int 255)) aNil))))))))))))) (mV 10))) aNil))))) (sIf (mAnd (mOp gEq (mV 9) (mC (.int 3))) (mV 2)) (sApp 5 (mAgs gTupD (aCons (mC (.str "even")) (aCons (mOp gSub (mAgs gLstD (aCons (mC (.int 1)) (aCons (mC (.int 2)) (aCons (mC (.int 3)) (aCons (mC (.int 4)) (aCons (mC (.int 5)) (aCons (mC (.int 8)) (aCons (mC (.int 16)) (aCons (mC (.int 32)) (aCons (mC (.int 40)) (aCons (mC (.int 64)) (aCons (mC (.int 7)) (aCons (mC (.int 63)) aNil))))))))))))) (mV 10)) aNil)))) (sSeq (sAsg 13 (mIf (mOp gEq (mV 11) (mC (.int 4))) (mOp gSub (mAgs gLstD (aCons (mC (.int 0)) (aCons (mC (.int 5)) (aCons (mUn iNeg (mC (.int 3))) aNil)))) (mV 12)) (mC (.int 0))))
  (sApp 5 (mAgs gTupD (aCons (mC (.str "branch")) (aCons (mOp gSub (mAgs gLstD (aCons (mC (.str "ask")) (aCons (mC (.str "go")) (aCons (mC (.str "call")) aNil)))) (mV 12)) (aCons (mOp gSub (mAgs gLstD (aCons (mC (.str "la")) (aCons (mC (.str "lb")) (aCons (mC (.str "lc")) (aCons (mC (.str "ld")) (aCons (mC (.str "away")) aNil)))))) (mV 11)) (aCons (mV 13) aNil))))))))))
def M_law_draft_b2 : MS := (sIns 5 (mOp iMod (mV 7) (mOp gAdd (mLenO 5) (mC (.int 1)))) (mAgs gTupD (aCons (mC (.str "label")) (aCons (mV 8) aNil))))
abbrev N_law_draft : List Str := ["_law_cell_here", "_law_most", "_law_is_even", "_law_k", "_law_draws", "_law_rows", "_law_wide", "_law_at", "_law_label", "_law_kind", "_law_size", "_law_name", "_law_called", "_law_more"]
theorem sc_law_draft : FnScope N_law_draft ["_law_cell_here", "_law_most", "_law_is_even"] (defScope s_law_draft) := ⟨rfl, rfl, rfl, by decide +kernel, rfl, by decide +kernel, by decide +kernel⟩
def M_law_draft : MS := (sSeq (sParV3 4 5 6 (vCons (mCall F_law_row (aCons (mV 0) (aCons (mOp gAdd (mOp gAdd (mAgs gLstD (aCons (mC (.int 8)) aNil)) (mOp lRep (mAgs gLstD (aCons (mC (.int 8)) (aCons (mC (.int 12)) (aCons (mC (.int 5)) (aCons (mC (.int 3)) aNil))))) (mC (.int 10)))) (mOp lRep (mAgs gLstD (aCons (mC (.int 11)) aNil)) (mC (.int 4)))) aNil))) (vConsO (mShort aNil) (vCons (mC (.int 0)) vNil))))
  (sSeq (sFor (mRng1 (aCons (mAgs (b2 gMin2) (aCons (mOp gAdd (mC (.int 2)) (mOp gSub (mV 4) (mC (.int 0)))) (aCons (mV 1) aNil))) aNil)) (gN 3) M_law_draft_b1)
  (sSeq (sFor (mIt zipOf (aCons (mSl (mV 4) (mInt (mC (.int 41))) (mC .non)) (aCons (mAgs gLstD (aCons (mC (.str "la")) (aCons (mC (.str "lb")) (aCons (mC (.str "lc")) (aCons (mC (.str "ld")) aNil))))) aNil))) (gTup2 2 (gsCons (gN 7) (gsCons (gN 8) gsNil))) M_law_draft_b2)
  (sFrz 5 (sRet (mV 5))))))
def F_law_draft : List D → FR := runF M_law_draft 3 11
theorem ok_law_draft (T : Txt K mg cls) : Df Pr w K mg base 2 "_law_draft" (spF K cls F_law_draft) :=
  dfF1 N_law_draft ["_law_cell_here", "_law_most", "_law_is_even"] M_law_draft 3 11 1 rfl rfl T.d_law_draft sc_law_draft fun f cdv A outer s H G E hr =>
  (s_cons (s_parV3 (i := 4) (j := 5) (l := 6) sc_law_draft.nd (v_cons (e_df (ok_law_row T) hr px (a_cons (e_v 0) (a_cons (e_op op_addG d_addG (e_op op_addG d_addG (e_lst (a_cons e_int a_nil)) (e_op op_rep d_rep (e_lst (a_cons e_int (a_cons e_int (a_cons e_int (a_cons e_int a_nil))))) e_int)) (e_op op_rep d_rep (e_lst (a_cons e_int a_nil)) e_int)) a_nil))) (v_consO (o_lst a_nil) (v_cons e_int v_nil))))
  (s_cons (s_for po (i_rng1 T.n_range (a_cons (e_b (call_min2 rfl) d_min2 (a_cons (e_op op_addG d_addG e_int (e_sub (u1 hr) (e_v 4) e_int)) (a_cons (e_v 1) a_nil)) T.n_min) a_nil)) (g_n (i := 3) sc_law_draft.nd) (s_cons (s_asgT (e_sl (e_v 4) (pt_some (e_op op_addG d_addG e_int (e_op op_mul d_mul e_int (e_v 3)))) (pt_some (e_op op_addG d_addG e_int (e_op op_mul d_mul e_int (e_v 3))))) (g_tup (n := 4) (gs_cons (g_n (i := 9) sc_law_draft.nd) (gs_cons (g_n (i := 10) sc_law_draft.nd) (gs_cons (g_n (i := 11) sc_law_draft.nd) (gs_cons (g_n (i := 12) sc_law_draft.nd) gs_nil))))))
  (s_one (s_if (PW.pt (t_and (t_cmp op_lt d_lt (e_v 9) e_int) (t_and1 (t_cmp op_lt d_lt (e_v 6) e_int)))) (s_cons (s_asg (i := 6) sc_law_draft.nd (e_op op_addG d_addG (e_v 6) e_int))
  (s_one (s_app (i := 5) (e_tup (a_cons e_str (a_cons (e_op op_rep d_rep (e_lst (a_cons (e_v 3) a_nil)) (e_sub (u1 hr) (e_lst (a_cons e_int (a_cons e_int (a_cons e_int (a_cons e_int (a_cons e_int (a_cons e_int (a_cons e_int (a_cons e_int (a_cons e_int (a_cons e_int (a_cons e_int (a_cons e_int a_nil))))))))))))) (e_v 10))) a_nil)))))) (s_one (s_if (PW.pt (t_and (t_cmp (op_eqD hr.units) d_eq (e_v 9) e_int) (t_and1 (t_val (e_v 2))))) (s_one (s_app (i := 5) (e_tup (a_cons e_str (a_cons (e_sub (u1 hr) (e_lst (a_cons e_int (a_cons e_int (a_cons e_int (a_cons e_int (a_cons e_int (a_cons e_int (a_cons e_int (a_cons e_int (a_cons e_int (a_cons e_int (a_cons e_int (a_cons e_int a_nil))))))))))))) (e_v 10)) a_nil))))) (s_cons (s_asg (i := 13) sc_law_draft.nd (e_if (t_cmp (op_eqD hr.units) d_eq (e_v 11) e_int) (e_sub (u1 hr) (e_lst (a_cons e_int (a_cons e_int (a_cons (e_un un_neg d_neg e_int) a_nil)))) (e_v 12)) e_int))
  (s_one (s_app (i := 5) (e_tup (a_cons e_str (a_cons (e_sub (u1 hr) (e_lst (a_cons e_str (a_cons e_str (a_cons e_str a_nil)))) (e_v 12)) (a_cons (e_sub (u1 hr) (e_lst (a_cons e_str (a_cons e_str (a_cons e_str (a_cons e_str (a_cons e_str a_nil)))))) (e_v 11)) (a_cons (e_v 13) a_nil))))))))))))))
  (s_cons (s_for po (i_zip T.n_zip (a_cons (e_sl (e_v 4) (pt_some e_int) pt_none) (a_cons (e_lst (a_cons e_str (a_cons e_str (a_cons e_str (a_cons e_str a_nil))))) a_nil))) (g_tup (n := 2) (gs_cons (g_n (i := 7) sc_law_draft.nd) (gs_cons (g_n (i := 8) sc_law_draft.nd) gs_nil))) (s_one (s_ins (i := 5) (e_op op_mod d_mod (e_v 7) (e_op op_addG d_addG (e_lenO (i := 5) T.n_len) e_int)) (e_tup (a_cons e_str (a_cons (e_v 8) a_nil))))))
  (s_one (s_frz 5 (s_ret (e_v 5)))))))
/-! is_list -/
abbrev s_is_list : Stmt := (topS 5)
abbrev N_is_list : List Str := ["thing"]
theorem sc_is_list : FnScope N_is_list ["thing"] (defScope s_is_list) := ⟨rfl, rfl, rfl, by decide +kernel, rfl, by decide +kernel, by decide +kernel⟩
def M_is_list : MS := (sRet (mUn gIsiLT (mV 0)))
def F_is_list : List D → FR := runF M_is_list 1 0
theorem ok_is_list (T : Txt K mg cls) : Df Pr w K mg base 1 "is_list" (spF K cls F_is_list) :=
  dfF1 N_is_list ["thing"] M_is_list 1 0 0 rfl rfl T.d_is_list sc_is_list fun f cdv A outer s H G E hr =>
  (s_one (s_ret (e_isiLT T.n_isinstance T.n_list T.n_tuple (e_v 0))))
/-! is_integer -/
abbrev s_is_integer : Stmt := (topS 4)
abbrev N_is_integer : List Str := ["thing"]
theorem sc_is_integer : FnScope N_is_integer ["thing"] (defScope s_is_integer) := ⟨rfl, rfl, rfl, by decide +kernel, rfl, by decide +kernel, by decide +kernel⟩
def M_is_integer : MS := (sRet (mAnd (mUn (gIsi .int) (mV 0)) (mNot (mUn (gIsi .bool) (mV 0)))))
def F_is_integer : List D → FR := runF M_is_integer 1 0
theorem ok_is_integer (T : Txt K mg cls) : Df Pr w K mg base 1 "is_integer" (spF K cls F_is_integer) :=
  dfF1 N_is_integer ["thing"] M_is_integer 1 0 0 rfl rfl T.d_is_integer sc_is_integer fun f cdv A outer s H G E hr =>
  (s_one (s_ret (e_and (e_isi .int (e_v 0) T.n_isinstance T.n_int) (e_one (e_not (e_isi .bool (e_v 0) T.n_isinstance T.n_bool))))))
/-! order_of -/
abbrev s_order_of : Stmt := (topS 19)
abbrev N_order_of : List Str := ["unknown"]
theorem sc_order_of : FnScope N_order_of ["unknown"] (defScope s_order_of) := ⟨rfl, rfl, rfl, by decide +kernel, rfl, by decide +kernel, by decide +kernel⟩
def M_order_of : MS := (sRet (mAgs gTupD (aCons (mOp gTIndex (mC c_KINDS) (noX (mOp gSub (mV 0) (mC (.int 0))))) (aCons (mOp gSub (mV 0) (mC (.int 1))) aNil))))
def F_order_of : List D → FR := runF M_order_of 1 0
theorem ok_order_of (T : Txt K mg cls) : Df Pr w K mg base 1 "order_of" (spF K cls F_order_of) :=
  dfF1 N_order_of ["unknown"] M_order_of 1 0 0 rfl rfl T.d_order_of sc_order_of fun f cdv A outer s H G E hr =>
  (s_one (s_ret (e_tup (a_cons (e_tix T.k_KINDS (e_sub (u1 hr) (e_v 0) e_int)) (a_cons (e_sub (u1 hr) (e_v 0) e_int) a_nil)))))
/-! summed -/
abbrev s_summed : Stmt := (topS 20)
def M_summed_b1 : MS := (sDPutX 2 (mV 4) (mOp gAdd (mDGetO 2 (mV 4) (mC (.int 0))) (mV 5)))
abbrev N_summed : List Str := ["number", "pairs", "found", "order", "unknown", "multiple"]
theorem sc_summed : FnScope N_summed ["number", "pairs"] (defScope s_summed) := ⟨rfl, rfl, rfl, by decide +kernel, rfl, by decide +kernel, by decide +kernel⟩
def M_summed : MS := (sSeq (sNewDT 2)
  (sSeq (sFor (mIter (mV 1)) (gTup2 2 (gsCons (gN 4) (gsCons (gN 5) gsNil))) M_summed_b1)
  (sSeq (sFrzD 2 (sAsg 3 (mSortK F_order_of (mFrz (mLc (mIter (mV 2)) (gN 4) (mOp gNe (mOp gSub (mV 2) (mV 4)) (mC (.int 0))) (mV 4) [4])))))
  (sRet (mAgs gTupD (aCons (mV 0) (aCons (mAgs (b1 gTupOf) (aCons (mFrz (mLc (mIter (mV 3)) (gN 4) mYes (mAgs gTupD (aCons (mV 4) (aCons (mOp gSub (mV 2) (mV 4)) aNil))) [4])) aNil)) aNil)))))))
def F_summed : List D → FR := runF M_summed 2 4
theorem ok_summed (T : Txt K mg cls) : Df Pr w K mg base 4 "summed" (spF K cls F_summed) :=
  dfF1 N_summed ["number", "pairs"] M_summed 2 4 3 rfl rfl T.d_summed sc_summed fun f cdv A outer s H G E hr =>
  (s_cons (s_newDT (i := 2) sc_summed.nd)
  (s_cons (s_for po (i_any (e_v 1)) (g_tup (n := 2) (gs_cons (g_n (i := 4) sc_summed.nd) (gs_cons (g_n (i := 5) sc_summed.nd) gs_nil))) (s_one (s_dputX (i := 2) (u1 hr) (e_v 4) (e_op op_addG d_addG (e_dgetO (i := 2) (u1 hr) (e_v 4) e_int) (e_v 5)))))
  (s_cons (s_frzd 2 (s_asg (i := 3) sc_summed.nd (e_sortK (ok_order_of T) hr (e_frz (o_lc (own := [("unknown", 4)]) sc_summed.nd (i_any (e_v 2)) (blkOk_by (N := N_summed) (sc := defScope s_summed) (by decide +kernel)) (fun _ _ _ _ _ => (gk_n (i := 4) sc_summed.nd)) (fun _ _ _ _ _ => (c_one (t_cmp (op_neD hr.units) d_ne (e_sub (u1 hr) (e_v 2) (e_v 4)) e_int))) (fun _ _ _ _ _ => (e_v 4)))) T.n_sorted)))
  (s_one (s_ret (e_tup (a_cons (e_v 0) (a_cons (e_ty call_tuple_of d_tupOf (a_cons (e_frz (o_lc (own := [("unknown", 4)]) sc_summed.nd (i_any (e_v 3)) (blkOk_by (N := N_summed) (sc := defScope s_summed) (by decide +kernel)) (fun _ _ _ _ _ => (gk_n (i := 4) sc_summed.nd)) (fun _ _ _ _ _ => c_yes) (fun _ _ _ _ _ => (e_tup (a_cons (e_v 4) (a_cons (e_sub (u1 hr) (e_v 2) (e_v 4)) a_nil)))))) a_nil) T.n_tuple) a_nil))))))))
/-! is_name -/
abbrev s_is_name : Stmt := (topS 6)
abbrev N_is_name : List Str := ["thing", "sign"]
theorem sc_is_name : FnScope N_is_name ["thing"] (defScope s_is_name) := ⟨rfl, rfl, rfl, by decide +kernel, rfl, by decide +kernel, by decide +kernel⟩
def M_is_name : MS := (sRet (mAnd (mUn (gIsi .str) (mV 0)) (mAnd (mChain iLt iLe (mC (.int 0)) (mAgs (b1 gLen) (aCons (mV 0) aNil)) (mC c_LONGEST)) (mAgs (b1 gAll) (aCons (mFrz (mLc (mIter (mV 0)) (gN 1) mYes (mOp gInG (mV 1) (mC c_LETTERS)) [1])) aNil)))))
def F_is_name : List D → FR := runF M_is_name 1 1
theorem ok_is_name (T : Txt K mg cls) : Df Pr w K mg base 1 "is_name" (spF K cls F_is_name) :=
  dfF1 N_is_name ["thing"] M_is_name 1 1 0 rfl rfl T.d_is_name sc_is_name fun f cdv A outer s H G E hr =>
  (s_one (s_ret (e_and (e_isi .str (e_v 0) T.n_isinstance T.n_str) (e_and (e_chain op_lt op_le d_lt d_le e_int (e_b call_len d_len (a_cons (e_v 0) a_nil) T.n_len) (e_g T.g_LONGEST)) (e_one (e_b (cr_all rfl) d_all (a_cons (e_frz (o_lc (own := [("sign", 1)]) sc_is_name.nd (i_any (e_v 0)) (blkOk_by (N := N_is_name) (sc := defScope s_is_name) (by decide +kernel)) (fun _ _ _ _ _ => (gk_n (i := 1) sc_is_name.nd)) (fun _ _ _ _ _ => c_yes) (fun _ _ _ _ _ => (e_cmp (op_inG (u65 hr)) d_inG (e_v 1) (e_g T.g_LETTERS))))) a_nil) T.n_all))))))
/-! is_unknown -/
abbrev s_is_unknown : Stmt := (topS 18)
abbrev N_is_unknown : List Str := ["thing"]
theorem sc_is_unknown : FnScope N_is_unknown ["thing"] (defScope s_is_unknown) := ⟨rfl, rfl, rfl, by decide +kernel, rfl, by decide +kernel, by decide +kernel⟩
def M_is_unknown : MS := (sSeq (sIf (mOr (mNot (mCall F_is_list (aCons (mV 0) aNil))) (mOr (mOp gNe (mAgs (b1 gLen) (aCons (mV 0) aNil)) (mC (.int 2))) (mOp gNotInG (mOp gSub (mV 0) (mC (.int 0))) (mC c_KINDS)))) (sRet (mC (.bl false))) sNil)
  (sSeq (sIf (mOp gEq (mOp gSub (mV 0) (mC (.int 0))) (mC (.str "in"))) (sRet (mAnd (mCall F_is_integer (aCons (mOp gSub (mV 0) (mC (.int 1))) aNil)) (mOp iGt (mOp gSub (mV 0) (mC (.int 1))) (mC (.int 0))))) sNil)
  (sRet (mCall F_is_name (aCons (mOp gSub (mV 0) (mC (.int 1))) aNil)))))
def F_is_unknown : List D → FR := runF M_is_unknown 1 0
theorem ok_is_unknown (T : Txt K mg cls) : Df Pr w K mg base 2 "is_unknown" (spF K cls F_is_unknown) :=
  dfF1 N_is_unknown ["thing"] M_is_unknown 1 0 1 rfl rfl T.d_is_unknown sc_is_unknown fun f cdv A outer s H G E hr =>
  (s_cons (s_if (PW.pt (t_or (t_not (t_val (e_df (ok_is_list T) hr px (a_cons (e_v 0) a_nil)))) (t_or (t_cmp (op_neD hr.units) d_ne (e_b call_len d_len (a_cons (e_v 0) a_nil) T.n_len) e_int) (t_or1 (t_cmp (op_notInG (u65 hr)) d_notInG (e_sub (u1 hr) (e_v 0) e_int) (e_g T.g_KINDS)))))) (s_one (s_ret e_bl)) s_nil)
  (s_cons (s_if (t_cmp (op_eqD hr.units) d_eq (e_sub (u1 hr) (e_v 0) e_int) e_str) (s_one (s_ret (e_and (e_df (ok_is_integer T) hr px (a_cons (e_sub (u1 hr) (e_v 0) e_int) a_nil)) (e_one (e_cmp op_gt d_gt (e_sub (u1 hr) (e_v 0) e_int) e_int))))) s_nil)
  (s_one (s_ret (e_df (ok_is_name T) hr px (a_cons (e_sub (u1 hr) (e_v 0) e_int) a_nil))))))
/-! is_pair_of -/
abbrev s_is_pair_of : Stmt := (topS 21)
abbrev N_is_pair_of : List Str := ["thing"]
theorem sc_is_pair_of : FnScope N_is_pair_of ["thing"] (defScope s_is_pair_of) := ⟨rfl, rfl, rfl, by decide +kernel, rfl, by decide +kernel, by decide +kernel⟩
def M_is_pair_of : MS := (sRet (mAnd (mCall F_is_list (aCons (mV 0) aNil)) (mAnd (mOp gEq (mAgs (b1 gLen) (aCons (mV 0) aNil)) (mC (.int 2))) (mAnd (mCall F_is_unknown (aCons (mOp gSub (mV 0) (mC (.int 0))) aNil)) (mCall F_is_integer (aCons (mOp gSub (mV 0) (mC (.int 1))) aNil))))))
def F_is_pair_of : List D → FR := runF M_is_pair_of 1 0
theorem ok_is_pair_of (T : Txt K mg cls) : Df Pr w K mg base 3 "is_pair_of" (spF K cls F_is_pair_of) :=
  dfF1 N_is_pair_of ["thing"] M_is_pair_of 1 0 2 rfl rfl T.d_is_pair_of sc_is_pair_of fun f cdv A outer s H G E hr =>
  (s_one (s_ret (e_and (e_df (ok_is_list T) hr px (a_cons (e_v 0) a_nil)) (e_and (e_cmp (op_eqD hr.units) d_eq (e_b call_len d_len (a_cons (e_v 0) a_nil) T.n_len) e_int) (e_and (e_df (ok_is_unknown T) hr px (a_cons (e_sub (u1 hr) (e_v 0) e_int) a_nil)) (e_one (e_df (ok_is_integer T) hr px (a_cons (e_sub (u1 hr) (e_v 0) e_int) a_nil))))))))
/-! is_sum -/
abbrev s_is_sum : Stmt := (topS 22)
abbrev N_is_sum : List Str := ["thing", "pair"]
theorem sc_is_sum : FnScope N_is_sum ["thing"] (defScope s_is_sum) := ⟨rfl, rfl, rfl, by decide +kernel, rfl, by decide +kernel, by decide +kernel⟩
def M_is_sum : MS := (sSeq (sIf (mCall F_is_integer (aCons (mV 0) aNil)) (sRet (mC (.bl true))) sNil)
  (sSeq (sIf (mOr (mNot (mCall F_is_list (aCons (mV 0) aNil))) (mOr (mOp gNe (mAgs (b1 gLen) (aCons (mV 0) aNil)) (mC (.int 2))) (mOr (mNot (mCall F_is_integer (aCons (mOp gSub (mV 0) (mC (.int 0))) aNil))) (mNot (mCall F_is_list (aCons (mOp gSub (mV 0) (mC (.int 1))) aNil)))))) (sRet (mC (.bl false))) sNil)
  (sRet (mAgs (b1 gAll) (aCons (mFrz (mLc (mIter (mOp gSub (mV 0) (mC (.int 1)))) (gN 1) mYes (mCall F_is_pair_of (aCons (mV 1) aNil)) [1])) aNil)))))
def F_is_sum : List D → FR := runF M_is_sum 1 1
theorem ok_is_sum (T : Txt K mg cls) : Df Pr w K mg base 4 "is_sum" (spF K cls F_is_sum) :=
  dfF1 N_is_sum ["thing"] M_is_sum 1 1 3 rfl rfl T.d_is_sum sc_is_sum fun f cdv A outer s H G E hr =>
  (s_cons (s_if (t_val (e_df (ok_is_integer T) hr px (a_cons (e_v 0) a_nil))) (s_one (s_ret e_bl)) s_nil)
  (s_cons (s_if (PW.pt (t_or (t_not (t_val (e_df (ok_is_list T) hr px (a_cons (e_v 0) a_nil)))) (t_or (t_cmp (op_neD hr.units) d_ne (e_b call_len d_len (a_cons (e_v 0) a_nil) T.n_len) e_int) (t_or (t_not (t_val (e_df (ok_is_integer T) hr px (a_cons (e_sub (u1 hr) (e_v 0) e_int) a_nil)))) (t_or1 (t_not (t_val (e_df (ok_is_list T) hr px (a_cons (e_sub (u1 hr) (e_v 0) e_int) a_nil))))))))) (s_one (s_ret e_bl)) s_nil)
  (s_one (s_ret (e_b (cr_all rfl) d_all (a_cons (e_frz (o_lc (own := [("pair", 1)]) sc_is_sum.nd (i_any (e_sub (u1 hr) (e_v 0) e_int)) (blkOk_by (N := N_is_sum) (sc := defScope s_is_sum) (by decide +kernel)) (fun _ _ _ _ _ => (gk_n (i := 1) sc_is_sum.nd)) (fun _ _ _ _ _ => c_yes) (fun _ _ _ _ _ => (e_df (ok_is_pair_of T) hr passL (a_cons (e_v 1) a_nil))))) a_nil) T.n_all)))))
/-! sum_of -/
abbrev s_sum_of : Stmt := (topS 23)
abbrev N_sum_of : List Str := ["thing", "unknown", "multiple"]
theorem sc_sum_of : FnScope N_sum_of ["thing"] (defScope s_sum_of) := ⟨rfl, rfl, rfl, by decide +kernel, rfl, by decide +kernel, by decide +kernel⟩
def M_sum_of : MS := (sSeq (sIf (mNot (mCall F_is_sum (aCons (mV 0) aNil))) (sRaise "BadSum" ["thing"] (aCons (mV 0) aNil)) sNil)
  (sSeq (sIf (mCall F_is_integer (aCons (mV 0) aNil)) (sRet (mAgs gTupD (aCons (mV 0) (aCons (mAgs gTupD aNil) aNil)))) sNil)
  (sRet (mCall F_summed (aCons (mOp gSub (mV 0) (mC (.int 0))) (aCons (mFrz (mLc (mIter (mOp gSub (mV 0) (mC (.int 1)))) (gTup2 2 (gsCons (gN 1) (gsCons (gN 2) gsNil))) mYes (mAgs gTupD (aCons (mAgs (b1 gTupOf) (aCons (mV 1) aNil)) (aCons (mV 2) aNil))) [1, 2])) aNil))))))
def F_sum_of : List D → FR := runF M_sum_of 1 2
theorem ok_sum_of (T : Txt K mg cls) : Df Pr w K mg base 5 "sum_of" (spF K cls F_sum_of) :=
  dfF1 N_sum_of ["thing"] M_sum_of 1 2 4 rfl rfl T.d_sum_of sc_sum_of fun f cdv A outer s H G E hr =>
  (s_cons (s_if (t_not (t_val (e_df (ok_is_sum T) hr px (a_cons (e_v 0) a_nil)))) (s_one (s_raise (takes_of rfl rfl rfl rfl) (ox_BadSum T) hr (a_cons (e_v 0) a_nil))) s_nil)
  (s_cons (s_if (t_val (e_df (ok_is_integer T) hr px (a_cons (e_v 0) a_nil))) (s_one (s_ret (e_tup (a_cons (e_v 0) (a_cons (e_tup a_nil) a_nil))))) s_nil)
  (s_one (s_ret (e_df (ok_summed T) hr px (a_cons (e_sub (u1 hr) (e_v 0) e_int) (a_cons (e_frz (o_lc (own := [("unknown", 1), ("multiple", 2)]) sc_sum_of.nd (i_any (e_sub (u1 hr) (e_v 0) e_int)) (blkOk_by (N := N_sum_of) (sc := defScope s_sum_of) (by decide +kernel)) (fun _ _ _ _ _ => (gk_tup (n := 2) (gks_cons (gk_n (i := 1) sc_sum_of.nd) (gks_cons (gk_n (i := 2) sc_sum_of.nd) gks_nil)))) (fun _ _ _ _ _ => c_yes) (fun _ _ _ _ _ => (e_tup (a_cons (e_ty call_tuple_of d_tupOf (a_cons (e_v 1) a_nil) T.n_tuple) (a_cons (e_v 2) a_nil)))))) a_nil)))))))
/-! as_row -/
abbrev s_as_row : Stmt := (topS 40)
abbrev N_as_row : List Str := ["thing", "one"]
theorem sc_as_row : FnScope N_as_row ["thing"] (defScope s_as_row) := ⟨rfl, rfl, rfl, by decide +kernel, rfl, by decide +kernel, by decide +kernel⟩
def M_as_row : MS := (sSeq (sIf (mOp gEq (mOp gSub (mV 0) (mC (.int 0))) (mC (.str "words"))) (sRet (mAgs gTupD (aCons (mC (.str "words")) (aCons (mAgs (b1 gTupOf) (aCons (mFrz (mLc (mIter (mOp gSub (mV 0) (mC (.int 1)))) (gN 1) mYes (mCall F_sum_of (aCons (mV 1) aNil)) [1])) aNil)) aNil)))) sNil)
  (sRet (mAgs (b1 gTupOf) (aCons (mV 0) aNil))))
def F_as_row : List D → FR := runF M_as_row 1 1
theorem ok_as_row (T : Txt K mg cls) : Df Pr w K mg base 6 "as_row" (spF K cls F_as_row) :=
  dfF1 N_as_row ["thing"] M_as_row 1 1 5 rfl rfl T.d_as_row sc_as_row fun f cdv A outer s H G E hr =>
  (s_cons (s_if (t_cmp (op_eqD hr.units) d_eq (e_sub (u1 hr) (e_v 0) e_int) e_str) (s_one (s_ret (e_tup (a_cons e_str (a_cons (e_ty call_tuple_of d_tupOf (a_cons (e_frz (o_lc (own := [("one", 1)]) sc_as_row.nd (i_any (e_sub (u1 hr) (e_v 0) e_int)) (blkOk_by (N := N_as_row) (sc := defScope s_as_row) (by decide +kernel)) (fun _ _ _ _ _ => (gk_n (i := 1) sc_as_row.nd)) (fun _ _ _ _ _ => c_yes) (fun _ _ _ _ _ => (e_df (ok_sum_of T) hr passL (a_cons (e_v 1) a_nil))))) a_nil) T.n_tuple) a_nil))))) s_nil)
  (s_one (s_ret (e_ty call_tuple_of d_tupOf (a_cons (e_v 0) a_nil) T.n_tuple))))
/-! is_row -/
abbrev s_is_row : Stmt := (topS 39)
abbrev N_is_row : List Str := ["thing", "is_called", "one", "word", "code"]
theorem sc_is_row : FnScope N_is_row ["thing"] (defScope s_is_row) := ⟨rfl, rfl, rfl, by decide +kernel, rfl, by decide +kernel, by decide +kernel⟩
def M_is_row : MS := (sSeq (sIf (mOr (mNot (mCall F_is_list (aCons (mV 0) aNil))) (mOr (mOp iLt (mAgs (b1 gLen) (aCons (mV 0) aNil)) (mC (.int 2))) (mNot (mUn (gIsi .str) (mOp gSub (mV 0) (mC (.int 0))))))) (sRet (mC (.bl false))) sNil)
  (sSeq (sIf (mAnd (mOp gEq (mOp gSub (mV 0) (mC (.int 0))) (mC (.str "words"))) (mOp gEq (mAgs (b1 gLen) (aCons (mV 0) aNil)) (mC (.int 2)))) (sRet (mAnd (mCall F_is_list (aCons (mOp gSub (mV 0) (mC (.int 1))) aNil)) (mAgs (b1 gAll) (aCons (mFrz (mLc (mIter (mOp gSub (mV 0) (mC (.int 1)))) (gN 2) mYes (mCall F_is_sum (aCons (mV 2) aNil)) [2])) aNil)))) sNil)
  (sSeq (sIf (mAnd (mOp gEq (mOp gSub (mV 0) (mC (.int 0))) (mC (.str "label"))) (mOp gEq (mAgs (b1 gLen) (aCons (mV 0) aNil)) (mC (.int 2)))) (sRet (mCall F_is_name (aCons (mOp gSub (mV 0) (mC (.int 1))) aNil))) sNil)
  (sSeq (sIf (mAnd (mOp gEq (mOp gSub (mV 0) (mC (.int 0))) (mC (.str "even"))) (mOp gEq (mAgs (b1 gLen) (aCons (mV 0) aNil)) (mC (.int 2)))) (sRet (mAnd (mCall F_is_integer (aCons (mOp gSub (mV 0) (mC (.int 1))) aNil)) (mChain iLe iLe (mC (.int 1)) (mOp gSub (mV 0) (mC (.int 1))) (mC c_WIDEST)))) sNil)
  (sSeq (sIf (mOr (mOp gNe (mOp gSub (mV 0) (mC (.int 0))) (mC (.str "branch"))) (mOp gNe (mAgs (b1 gLen) (aCons (mV 0) aNil)) (mC (.int 4)))) (sRet (mC (.bl false))) sNil)
  (sSeq (sAsg 1 (mAnd (mUn (gIsi .str) (mOp gSub (mV 0) (mC (.int 1)))) (mOp gInG (mOp gSub (mV 0) (mC (.int 1))) (mFrz (mLc (mIter (mC c_CODES_drafts)) (gTup2 2 (gsCons (gN 3) (gsCons (gN 4) gsNil))) mYes (mV 3) [3, 4])))))
  (sRet (mAnd (mV 1) (mAnd (mCall F_is_name (aCons (mOp gSub (mV 0) (mC (.int 2))) aNil)) (mCall F_is_integer (aCons (mOp gSub (mV 0) (mC (.int 3))) aNil)))))))))))
def F_is_row : List D → FR := runF M_is_row 1 4
theorem ok_is_row (T : Txt K mg cls) : Df Pr w K mg base 5 "is_row" (spF K cls F_is_row) :=
  dfF1 N_is_row ["thing"] M_is_row 1 4 4 rfl rfl T.d_is_row sc_is_row fun f cdv A outer s H G E hr =>
  (s_cons (s_if (PW.pt (t_or (t_not (t_val (e_df (ok_is_list T) hr px (a_cons (e_v 0) a_nil)))) (t_or (t_cmp op_lt d_lt (e_b call_len d_len (a_cons (e_v 0) a_nil) T.n_len) e_int) (t_or1 (t_not (t_val (e_isi .str (e_sub (u1 hr) (e_v 0) e_int) T.n_isinstance T.n_str))))))) (s_one (s_ret e_bl)) s_nil)
  (s_cons (s_if (PW.pt (t_and (t_cmp (op_eqD hr.units) d_eq (e_sub (u1 hr) (e_v 0) e_int) e_str) (t_and1 (t_cmp (op_eqD hr.units) d_eq (e_b call_len d_len (a_cons (e_v 0) a_nil) T.n_len) e_int)))) (s_one (s_ret (e_and (e_df (ok_is_list T) hr px (a_cons (e_sub (u1 hr) (e_v 0) e_int) a_nil)) (e_one (e_b (cr_all rfl) d_all (a_cons (e_frz (o_lc (own := [("one", 2)]) sc_is_row.nd (i_any (e_sub (u1 hr) (e_v 0) e_int)) (blkOk_by (N := N_is_row) (sc := defScope s_is_row) (by decide +kernel)) (fun _ _ _ _ _ => (gk_n (i := 2) sc_is_row.nd)) (fun _ _ _ _ _ => c_yes) (fun _ _ _ _ _ => (e_df (ok_is_sum T) hr passL (a_cons (e_v 2) a_nil))))) a_nil) T.n_all))))) s_nil)
  (s_cons (s_if (PW.pt (t_and (t_cmp (op_eqD hr.units) d_eq (e_sub (u1 hr) (e_v 0) e_int) e_str) (t_and1 (t_cmp (op_eqD hr.units) d_eq (e_b call_len d_len (a_cons (e_v 0) a_nil) T.n_len) e_int)))) (s_one (s_ret (e_df (ok_is_name T) hr px (a_cons (e_sub (u1 hr) (e_v 0) e_int) a_nil)))) s_nil)
  (s_cons (s_if (PW.pt (t_and (t_cmp (op_eqD hr.units) d_eq (e_sub (u1 hr) (e_v 0) e_int) e_str) (t_and1 (t_cmp (op_eqD hr.units) d_eq (e_b call_len d_len (a_cons (e_v 0) a_nil) T.n_len) e_int)))) (s_one (s_ret (e_and (e_df (ok_is_integer T) hr px (a_cons (e_sub (u1 hr) (e_v 0) e_int) a_nil)) (e_one (e_chain op_le op_le d_le d_le e_int (e_sub (u1 hr) (e_v 0) e_int) (e_g T.g_WIDEST)))))) s_nil)
  (s_cons (s_if (PW.pt (t_or (t_cmp (op_neD hr.units) d_ne (e_sub (u1 hr) (e_v 0) e_int) e_str) (t_or1 (t_cmp (op_neD hr.units) d_ne (e_b call_len d_len (a_cons (e_v 0) a_nil) T.n_len) e_int)))) (s_one (s_ret e_bl)) s_nil)
  (s_cons (s_asg (i := 1) sc_is_row.nd (e_and (e_isi .str (e_sub (u1 hr) (e_v 0) e_int) T.n_isinstance T.n_str) (e_one (e_cmp (op_inG (u65 hr)) d_inG (e_sub (u1 hr) (e_v 0) e_int) (e_frz (o_lc (own := [("word", 3), ("code", 4)]) sc_is_row.nd (i_any (e_g T.g_CODES_drafts)) (blkOk_by (N := N_is_row) (sc := defScope s_is_row) (by decide +kernel)) (fun _ _ _ _ _ => (gk_tup (n := 2) (gks_cons (gk_n (i := 3) sc_is_row.nd) (gks_cons (gk_n (i := 4) sc_is_row.nd) gks_nil)))) (fun _ _ _ _ _ => c_yes) (fun _ _ _ _ _ => (e_v 3))))))))
  (s_one (s_ret (e_and (e_v 1) (e_and (e_df (ok_is_name T) hr px (a_cons (e_sub (u1 hr) (e_v 0) e_int) a_nil)) (e_one (e_df (ok_is_integer T) hr px (a_cons (e_sub (u1 hr) (e_v 0) e_int) a_nil)))))))))))))
/-! Draft.__init__ -/
abbrev s_Draft_init : Stmt := (inS 41 0)
def M_Draft_init_b1 : MS := (sIf (mAnd (mCall F_is_row (aCons (mV 4) aNil)) (mOp gEq (mOp gSub (mV 4) (mC (.int 0))) (mC (.str "label")))) (sDPutX 2 (mOp gSub (mV 4) (mC (.int 1))) (mDGetO 2 (mOp gSub (mV 4) (mC (.int 1))) (mV 3))) sNil)
def M_Draft_init_b2 : MS := (sSeq (sIf (mOr (mNot (mCall F_is_row (aCons (mV 4) aNil))) (mAnd (mOp gEq (mOp gSub (mV 4) (mC (.int 0))) (mC (.str "label"))) (mOp gNe (mDIxO 2 (mOp gSub (mV 4) (mC (.int 1)))) (mV 3)))) (sRaise "BadDraft" ["index"] (aCons (mV 3) aNil)) sNil)
  (sIf (mAnd (mOp gEq (mOp gSub (mV 4) (mC (.int 0))) (mC (.str "branch"))) (mAnd (mDInO true 2 (mOp gSub (mV 4) (mC (.int 2)))) (mOp gNe (mOp gSub (mV 4) (mC (.int 3))) (mC (.int 0))))) (sRaise "BadDraft" ["index"] (aCons (mV 3) aNil)) sNil))
abbrev N_Draft_init : List Str := ["self", "rows", "labels", "index", "row"]
theorem sc_Draft_init : FnScope N_Draft_init ["self", "rows"] (defScope s_Draft_init) := ⟨rfl, rfl, rfl, by decide +kernel, rfl, by decide +kernel, by decide +kernel⟩
def M_Draft_init : MS := (sSeq (sIf (mNot (mCall F_is_list (aCons (mV 1) aNil))) (sRaise "BadDraft" ["index"] (aCons (mC (.int 0)) aNil)) sNil)
  (sSeq (sNewDK 2)
  (sSeq (sFor (mIt enumOf (aCons (mV 1) aNil)) (gTup2 2 (gsCons (gN 3) (gsCons (gN 4) gsNil))) M_Draft_init_b1)
  (sSeq (sFor (mIt enumOf (aCons (mV 1) aNil)) (gTup2 2 (gsCons (gN 3) (gsCons (gN 4) gsNil))) M_Draft_init_b2)
  (sSeq (sFldO 0 "Draft" "draft_rows" (mFrz (mLc (mIter (mV 1)) (gN 4) mYes (mCall F_as_row (aCons (mV 4) aNil)) [4])))
  (sFrzD 2 (sFldO 0 "Draft" "labels" (mV 2))))))))
def F_Draft_init : List D → IR := runI "Draft" M_Draft_init 2 3
theorem ok_Draft_init (T : Txt K mg cls) : MkD Pr w K mg base 7 "Draft" (spN K cls "Draft" F_Draft_init) :=
  mkN1 N_Draft_init ["self", "rows"] M_Draft_init 2 3 6 rfl rfl T.ini_Draft sc_Draft_init fun f cdv A outer s H G E a hr =>
  (s_cons (s_if (t_not (t_val (e_df (ok_is_list T) hr px (a_cons (e_v 1) a_nil)))) (s_one (s_raise (takes_of rfl rfl rfl rfl) (ox_BadDraft T) hr (a_cons e_int a_nil))) s_nil)
  (s_cons (s_newDK (i := 2) sc_Draft_init.nd)
  (s_cons (s_for po (i_enum T.n_enumerate (a_cons (e_v 1) a_nil)) (g_tup (n := 2) (gs_cons (g_n (i := 3) sc_Draft_init.nd) (gs_cons (g_n (i := 4) sc_Draft_init.nd) gs_nil))) (s_one (s_if (PW.pt (t_and (t_val (e_df (ok_is_row T) hr px (a_cons (e_v 4) a_nil))) (t_and1 (t_cmp (op_eqD hr.units) d_eq (e_sub (u1 hr) (e_v 4) e_int) e_str)))) (s_one (s_dputX (i := 2) (u1 hr) (e_sub (u1 hr) (e_v 4) e_int) (e_dgetO (i := 2) (u1 hr) (e_sub (u1 hr) (e_v 4) e_int) (e_v 3)))) s_nil)))
  (s_cons (s_for po (i_enum T.n_enumerate (a_cons (e_v 1) a_nil)) (g_tup (n := 2) (gs_cons (g_n (i := 3) sc_Draft_init.nd) (gs_cons (g_n (i := 4) sc_Draft_init.nd) gs_nil))) (s_cons (s_if (PW.pt (t_or (t_not (t_val (e_df (ok_is_row T) hr px (a_cons (e_v 4) a_nil)))) (t_or1 (PW.pt (t_and (t_cmp (op_eqD hr.units) d_eq (e_sub (u1 hr) (e_v 4) e_int) e_str) (t_and1 (t_cmp (op_neD hr.units) d_ne (e_dixO (i := 2) (u1 hr) (e_sub (u1 hr) (e_v 4) e_int)) (e_v 3)))))))) (s_one (s_raise (takes_of rfl rfl rfl rfl) (ox_BadDraft T) hr (a_cons (e_v 3) a_nil))) s_nil)
  (s_one (s_if (PW.pt (t_and (t_cmp (op_eqD hr.units) d_eq (e_sub (u1 hr) (e_v 4) e_int) e_str) (t_and (t_dinO (i := 2) (u1 hr) (e_sub (u1 hr) (e_v 4) e_int)) (t_and1 (t_cmp (op_neD hr.units) d_ne (e_sub (u1 hr) (e_v 4) e_int) e_int))))) (s_one (s_raise (takes_of rfl rfl rfl rfl) (ox_BadDraft T) hr (a_cons (e_v 3) a_nil))) s_nil))))
  (s_cons (s_fldO (i := 0) T.cf_Draft T.nf_Draft_draft_rows (e_frz (o_lc (own := [("row", 4)]) sc_Draft_init.nd (i_any (e_v 1)) (blkOk_by (N := N_Draft_init) (sc := defScope s_Draft_init) (by decide +kernel)) (fun _ _ _ _ _ => (gk_n (i := 4) sc_Draft_init.nd)) (fun _ _ _ _ _ => c_yes) (fun _ _ _ _ _ => (e_df (ok_as_row T) hr passL (a_cons (e_v 4) a_nil))))))
  (s_one (s_frzd 2 (s_fldO (i := 0) T.cf_Draft T.nf_Draft_labels (e_v 2)))))))))
/-! _law_spots -/
abbrev s_law_spots : Stmt := (topS 49)
abbrev N_law_spots : List Str := ["_law_rows", "_law_k", "_law_row_here"]
theorem sc_law_spots : FnScope N_law_spots ["_law_rows"] (defScope s_law_spots) := ⟨rfl, rfl, rfl, by decide +kernel, rfl, by decide +kernel, by decide +kernel⟩
def M_law_spots : MS := (sRet (mAgs (b1 gDictOf) (aCons (mFrz (mLc (mIt enumOf (aCons (mV 0) aNil)) (gTup2 2 (gsCons (gN 1) (gsCons (gN 2) gsNil))) (mOp gEq (mOp gSub (mV 2) (mC (.int 0))) (mC (.str "label"))) (mAgs gTupD (aCons (mOp gSub (mV 2) (mC (.int 1))) (aCons (mV 1) aNil))) [1, 2])) aNil)))
def F_law_spots : List D → FR := runF M_law_spots 1 2
theorem ok_law_spots (T : Txt K mg cls) : Df Pr w K mg base 1 "_law_spots" (spF K cls F_law_spots) :=
  dfF1 N_law_spots ["_law_rows"] M_law_spots 1 2 0 rfl rfl T.d_law_spots sc_law_spots fun f cdv A outer s H G E hr =>
  (s_one (s_ret (e_dictOf T.n_dict (a_cons (e_frz (o_lc (own := [("_law_k", 1), ("_law_row_here", 2)]) sc_law_spots.nd (i_enum T.n_enumerate (a_cons (e_v 0) a_nil)) (blkOk_by (N := N_law_spots) (sc := defScope s_law_spots) (by decide +kernel)) (fun _ _ _ _ _ => (gk_tup (n := 2) (gks_cons (gk_n (i := 1) sc_law_spots.nd) (gks_cons (gk_n (i := 2) sc_law_spots.nd) gks_nil)))) (fun _ _ _ _ _ => (c_one (t_cmp (op_eqD hr.units) d_eq (e_sub (u1 hr) (e_v 2) e_int) e_str))) (fun _ _ _ _ _ => (e_tup (a_cons (e_sub (u1 hr) (e_v 2) e_int) (a_cons (e_v 1) a_nil)))))) a_nil))))
/-! _law_branches -/
abbrev s_law_branches : Stmt := (topS 48)
abbrev N_law_branches : List Str := ["_law_rows", "_law_k", "_law_row_here"]
theorem sc_law_branches : FnScope N_law_branches ["_law_rows"] (defScope s_law_branches) := ⟨rfl, rfl, rfl, by decide +kernel, rfl, by decide +kernel, by decide +kernel⟩
def M_law_branches : MS := (sRet (mFrz (mLc (mIt enumOf (aCons (mV 0) aNil)) (gTup2 2 (gsCons (gN 1) (gsCons (gN 2) gsNil))) (mOp gEq (mOp gSub (mV 2) (mC (.int 0))) (mC (.str "branch"))) (mV 1) [1, 2])))
def F_law_branches : List D → FR := runF M_law_branches 1 2
theorem ok_law_branches (T : Txt K mg cls) : Df Pr w K mg base 1 "_law_branches" (spF K cls F_law_branches) :=
  dfF1 N_law_branches ["_law_rows"] M_law_branches 1 2 0 rfl rfl T.d_law_branches sc_law_branches fun f cdv A outer s H G E hr =>
  (s_one (s_ret (e_frz (o_lc (own := [("_law_k", 1), ("_law_row_here", 2)]) sc_law_branches.nd (i_enum T.n_enumerate (a_cons (e_v 0) a_nil)) (blkOk_by (N := N_law_branches) (sc := defScope s_law_branches) (by decide +kernel)) (fun _ _ _ _ _ => (gk_tup (n := 2) (gks_cons (gk_n (i := 1) sc_law_branches.nd) (gks_cons (gk_n (i := 2) sc_law_branches.nd) gks_nil)))) (fun _ _ _ _ _ => (c_one (t_cmp (op_eqD hr.units) d_eq (e_sub (u1 hr) (e_v 2) e_int) e_str))) (fun _ _ _ _ _ => (e_v 1))))))
/-! _law_outs -/
abbrev s_law_outs : Stmt := (topS 50)
abbrev N_law_outs : List Str := ["_law_rows", "_law_spots_here", "_law_k"]
theorem sc_law_outs : FnScope N_law_outs ["_law_rows"] (defScope s_law_outs) := ⟨rfl, rfl, rfl, by decide +kernel, rfl, by decide +kernel, by decide +kernel⟩
def M_law_outs : MS := (sSeq (sAsg 1 (mCall F_law_spots (aCons (mV 0) aNil)))
  (sRet (mFrz (mLc (mIter (mCall F_law_branches (aCons (mV 0) aNil))) (gN 2) (mOp gNotInG (mOp gSub (mOp gSub (mV 0) (mV 2)) (mC (.int 2))) (mV 1)) (mV 2) [2]))))
def F_law_outs : List D → FR := runF M_law_outs 1 2
theorem ok_law_outs (T : Txt K mg cls) : Df Pr w K mg base 2 "_law_outs" (spF K cls F_law_outs) :=
  dfF1 N_law_outs ["_law_rows"] M_law_outs 1 2 1 rfl rfl T.d_law_outs sc_law_outs fun f cdv A outer s H G E hr =>
  (s_cons (s_asg (i := 1) sc_law_outs.nd (e_df (ok_law_spots T) hr px (a_cons (e_v 0) a_nil)))
  (s_one (s_ret (e_frz (o_lc (own := [("_law_k", 2)]) sc_law_outs.nd (i_any (e_df (ok_law_branches T) hr px (a_cons (e_v 0) a_nil))) (blkOk_by (N := N_law_outs) (sc := defScope s_law_outs) (by decide +kernel)) (fun _ _ _ _ _ => (gk_n (i := 2) sc_law_outs.nd)) (fun _ _ _ _ _ => (c_one (t_cmp (op_notInG (u65 hr)) d_notInG (e_sub (u1 hr) (e_sub (u1 hr) (e_v 0) (e_v 2)) e_int) (e_v 1)))) (fun _ _ _ _ _ => (e_v 2)))))))
/-! _law_begins -/
abbrev s_law_begins : Stmt := (topS 51)
def M_law_begins_b1 : MS := (sSeq (sAsg 5 (mC (.int 0)))
  (sSeq (sIf (mOp gEq (mOp gSub (mV 4) (mC (.int 0))) (mC (.str "words"))) (sAsg 5 (mAgs (b1 gLen) (aCons (mOp gSub (mV 4) (mC (.int 1))) aNil))) (sIf (mOp gEq (mOp gSub (mV 4) (mC (.int 0))) (mC (.str "even"))) (sAsg 5 (mOp iMod (mOp iSub (mOp gSub (mV 4) (mC (.int 1))) (mOp iMod (mIxO 2 (mUn iNeg (mC (.int 1)))) (mOp gSub (mV 4) (mC (.int 1))))) (mOp gSub (mV 4) (mC (.int 1))))) (sIf (mOp gEq (mOp gSub (mV 4) (mC (.int 0))) (mC (.str "branch"))) (sAsg 5 (mOp gAdd (mC (.int 1)) (mAgs (b1 gInt) (aCons (mOp gInG (mV 3) (mV 1)) aNil)))) sNil)))
  (sApp 2 (mOp gAdd (mIxO 2 (mUn iNeg (mC (.int 1)))) (mV 5)))))
abbrev N_law_begins : List Str := ["_law_rows", "_law_far", "_law_found", "_law_k", "_law_row_here", "_law_size"]
theorem sc_law_begins : FnScope N_law_begins ["_law_rows", "_law_far"] (defScope s_law_begins) := ⟨rfl, rfl, rfl, by decide +kernel, rfl, by decide +kernel, by decide +kernel⟩
def M_law_begins : MS := (sSeq (sAsgO 2 (mShort (aCons (mC (.int 0)) aNil)))
  (sSeq (sFor (mIt enumOf (aCons (mV 0) aNil)) (gTup2 2 (gsCons (gN 3) (gsCons (gN 4) gsNil))) M_law_begins_b1)
  (sFrz 2 (sRet (mV 2)))))
def F_law_begins : List D → FR := runF M_law_begins 2 4
theorem ok_law_begins (T : Txt K mg cls) : Df Pr w K mg base 1 "_law_begins" (spF K cls F_law_begins) :=
  dfF1 N_law_begins ["_law_rows", "_law_far"] M_law_begins 2 4 0 rfl rfl T.d_law_begins sc_law_begins fun f cdv A outer s H G E hr =>
  (s_cons (s_asgO (i := 2) sc_law_begins.nd (o_lst (a_cons e_int a_nil)))
  (s_cons (s_for po (i_enum T.n_enumerate (a_cons (e_v 0) a_nil)) (g_tup (n := 2) (gs_cons (g_n (i := 3) sc_law_begins.nd) (gs_cons (g_n (i := 4) sc_law_begins.nd) gs_nil))) (s_cons (s_asg (i := 5) sc_law_begins.nd e_int)
  (s_cons (s_if (t_cmp (op_eqD hr.units) d_eq (e_sub (u1 hr) (e_v 4) e_int) e_str) (s_one (s_asg (i := 5) sc_law_begins.nd (e_b call_len d_len (a_cons (e_sub (u1 hr) (e_v 4) e_int) a_nil) T.n_len))) (s_one (s_if (t_cmp (op_eqD hr.units) d_eq (e_sub (u1 hr) (e_v 4) e_int) e_str) (s_one (s_asg (i := 5) sc_law_begins.nd (e_op op_mod d_mod (e_op op_sub d_sub (e_sub (u1 hr) (e_v 4) e_int) (e_op op_mod d_mod (e_ixO (i := 2) (e_un un_neg d_neg e_int)) (e_sub (u1 hr) (e_v 4) e_int))) (e_sub (u1 hr) (e_v 4) e_int)))) (s_one (s_if (t_cmp (op_eqD hr.units) d_eq (e_sub (u1 hr) (e_v 4) e_int) e_str) (s_one (s_asg (i := 5) sc_law_begins.nd (e_op op_addG d_addG e_int (e_ty call_int1 d_int (a_cons (e_cmp (op_inG (u65 hr)) d_inG (e_v 3) (e_v 1)) a_nil) T.n_int)))) s_nil)))))
  (s_one (s_app (i := 2) (e_op op_addG d_addG (e_ixO (i := 2) (e_un un_neg d_neg e_int)) (e_v 5)))))))
  (s_one (s_frz 2 (s_ret (e_v 2))))))
/-! _law_ways -/
abbrev s_law_ways : Stmt := (topS 52)
abbrev N_law_ways : List Str := ["_law_rows", "_law_far", "_law_inner", "_law_begins_here", "_law_spots_here", "_law_k"]
theorem sc_law_ways : FnScope N_law_ways ["_law_rows", "_law_far"] (defScope s_law_ways) := ⟨rfl, rfl, rfl, by decide +kernel, rfl, by decide +kernel, by decide +kernel⟩
def M_law_ways : MS := (sSeq (sAsgT (gTup2 2 (gsCons (gN 3) (gsCons (gN 4) gsNil))) (mAgs gTupD (aCons (mCall F_law_begins (aCons (mV 0) (aCons (mV 1) aNil))) (aCons (mCall F_law_spots (aCons (mV 0) aNil)) aNil))))
  (sSeq (sAsg 2 (mFrz (mLc (mIter (mCall F_law_branches (aCons (mV 0) aNil))) (gN 5) (mOp gInG (mOp gSub (mOp gSub (mV 0) (mV 5)) (mC (.int 2))) (mV 4)) (mV 5) [5])))
  (sRet (mAgs (b1 gDictOf) (aCons (mFrz (mLc (mIter (mV 2)) (gN 5) mYes (mAgs gTupD (aCons (mV 5) (aCons (mOp iSub (mOp gSub (mV 3) (mOp gSub (mV 4) (mOp gSub (mOp gSub (mV 0) (mV 5)) (mC (.int 2))))) (mOp gSub (mV 3) (mV 5))) aNil))) [5])) aNil)))))
def F_law_ways : List D → FR := runF M_law_ways 2 4
theorem ok_law_ways (T : Txt K mg cls) : Df Pr w K mg base 2 "_law_ways" (spF K cls F_law_ways) :=
  dfF1 N_law_ways ["_law_rows", "_law_far"] M_law_ways 2 4 1 rfl rfl T.d_law_ways sc_law_ways fun f cdv A outer s H G E hr =>
  (s_cons (s_asgT (e_tup (a_cons (e_df (ok_law_begins T) hr px (a_cons (e_v 0) (a_cons (e_v 1) a_nil))) (a_cons (e_df (ok_law_spots T) hr px (a_cons (e_v 0) a_nil)) a_nil))) (g_tup (n := 2) (gs_cons (g_n (i := 3) sc_law_ways.nd) (gs_cons (g_n (i := 4) sc_law_ways.nd) gs_nil))))
  (s_cons (s_lcF (i := 2) (own := [("_law_k", 5)]) sc_law_ways.nd (i_any (e_df (ok_law_branches T) hr px (a_cons (e_v 0) a_nil))) (blkOk_by (N := N_law_ways) (sc := defScope s_law_ways) (by decide +kernel)) (fun _ _ _ _ _ => (gk_n (i := 5) sc_law_ways.nd)) (fun _ _ _ _ _ => (c_one (t_cmp (op_inG (u65 hr)) d_inG (e_sub (u1 hr) (e_sub (u1 hr) (e_v 0) (e_v 5)) e_int) (e_v 4)))) (fun _ _ _ _ _ => (e_v 5)))
  (s_one (s_ret (e_dictOf T.n_dict (a_cons (e_frz (o_lc (own := [("_law_k", 5)]) sc_law_ways.nd (i_any (e_v 2)) (blkOk_by (N := N_law_ways) (sc := defScope s_law_ways) (by decide +kernel)) (fun _ _ _ _ _ => (gk_n (i := 5) sc_law_ways.nd)) (fun _ _ _ _ _ => c_yes) (fun _ _ _ _ _ => (e_tup (a_cons (e_v 5) (a_cons (e_op op_sub d_sub (e_sub (u1 hr) (e_v 3) (e_sub (u1 hr) (e_v 4) (e_sub (u1 hr) (e_sub (u1 hr) (e_v 0) (e_v 5)) e_int))) (e_sub (u1 hr) (e_v 3) (e_v 5))) a_nil)))))) a_nil))))))
/-! _law_long -/
abbrev s_law_long : Stmt := (topS 53)
abbrev N_law_long : List Str := ["_law_rows", "_law_far", "_law_gaps", "_law_k"]
theorem sc_law_long : FnScope N_law_long ["_law_rows", "_law_far"] (defScope s_law_long) := ⟨rfl, rfl, rfl, by decide +kernel, rfl, by decide +kernel, by decide +kernel⟩
def M_law_long : MS := (sSeq (sAsg 2 (mCall F_law_ways (aCons (mV 0) (aCons (mV 1) aNil))))
  (sRet (mFrz (mLc (mIter (mV 2)) (gN 3) (mAnd (mOp gNotInG (mV 3) (mV 1)) (mOr (mOp iLt (mOp gSub (mV 2) (mV 3)) (mUn iNeg (mC (.int 256)))) (mOp iGt (mOp gSub (mV 2) (mV 3)) (mC (.int 255))))) (mV 3) [3]))))
def F_law_long : List D → FR := runF M_law_long 2 2
theorem ok_law_long (T : Txt K mg cls) : Df Pr w K mg base 3 "_law_long" (spF K cls F_law_long) :=
  dfF1 N_law_long ["_law_rows", "_law_far"] M_law_long 2 2 2 rfl rfl T.d_law_long sc_law_long fun f cdv A outer s H G E hr =>
  (s_cons (s_asg (i := 2) sc_law_long.nd (e_df (ok_law_ways T) hr px (a_cons (e_v 0) (a_cons (e_v 1) a_nil))))
  (s_one (s_ret (e_frz (o_lc (own := [("_law_k", 3)]) sc_law_long.nd (i_any (e_v 2)) (blkOk_by (N := N_law_long) (sc := defScope s_law_long) (by decide +kernel)) (fun _ _ _ _ _ => (gk_n (i := 3) sc_law_long.nd)) (fun _ _ _ _ _ => (c_one (PW.pt (t_and (t_cmp (op_notInG (u65 hr)) d_notInG (e_v 3) (e_v 1)) (t_and1 (PW.pt (t_or (t_cmp op_lt d_lt (e_sub (u1 hr) (e_v 2) (e_v 3)) (e_un un_neg d_neg e_int)) (t_or1 (t_cmp op_gt d_gt (e_sub (u1 hr) (e_v 2) (e_v 3)) e_int))))))))) (fun _ _ _ _ _ => (e_v 3)))))))
/-! _law_grown -/
abbrev s_law_grown : Stmt := (topS 54)
def M_law_grown_b1 : MS := (sAsg 1 (mAgs (b1 gSortG) (aCons (mOp gAdd (mV 1) (mCall F_law_long (aCons (mV 0) (aCons (mV 1) aNil)))) aNil)))
abbrev N_law_grown : List Str := ["_law_rows", "_law_far"]
theorem sc_law_grown : FnScope N_law_grown ["_law_rows"] (defScope s_law_grown) := ⟨rfl, rfl, rfl, by decide +kernel, rfl, by decide +kernel, by decide +kernel⟩
def M_law_grown : MS := (sSeq (sAsg 1 (mCall F_law_outs (aCons (mV 0) aNil)))
  (sSeq (sWhile 1000 (mOp gNe (mCall F_law_long (aCons (mV 0) (aCons (mV 1) aNil))) (mAgs gLstD aNil)) M_law_grown_b1)
  (sRet (mAgs (b1 gTupOf) (aCons (mV 1) aNil)))))
def F_law_grown : List D → FR := runF M_law_grown 1 1
theorem ok_law_grown (T : Txt K mg cls) : Df Pr w K mg base 4 "_law_grown" (spF K cls F_law_grown) :=
  dfF1 N_law_grown ["_law_rows"] M_law_grown 1 1 3 rfl rfl T.d_law_grown sc_law_grown fun f cdv A outer s H G E hr =>
  (s_cons (s_asg (i := 1) sc_law_grown.nd (e_df (ok_law_outs T) hr px (a_cons (e_v 0) a_nil)))
  (s_cons (s_while (n := 1000) po (t_cmp (op_neD hr.units) d_ne (e_df (ok_law_long T) hr px (a_cons (e_v 0) (a_cons (e_v 1) a_nil))) (e_lst a_nil)) (s_one (s_asg (i := 1) sc_law_grown.nd (e_b (cr_sortG (u65 hr)) d_sortG (a_cons (e_op op_addG d_addG (e_v 1) (e_df (ok_law_long T) hr px (a_cons (e_v 0) (a_cons (e_v 1) a_nil)))) a_nil) T.n_sorted))))
  (s_one (s_ret (e_ty call_tuple_of d_tupOf (a_cons (e_v 1) a_nil) T.n_tuple)))))
/-! _law_met -/
abbrev s_law_met : Stmt := (topS 55)
abbrev N_law_met : List Str := ["_law_ask", "e"]
theorem sc_law_met : FnScope N_law_met ["_law_ask"] (defScope s_law_met) := ⟨rfl, rfl, rfl, by decide +kernel, rfl, by decide +kernel, by decide +kernel⟩
def cl_law_met : Cls := [("NoName", "name", ["name"]), ("BadChoice", "choice", ["thing"]), ("TooLong", "long", ["index"])]
theorem ok_law_met (T : Txt K mg cls) : MetD K mg cls "_law_met" excs "told" cl_law_met := by
  obtain ⟨g, fd, F, m, b⟩ := T.d_law_met.ex
  refine ⟨⟨s_law_met, "_law_ask", N_law_met, g, fd, F, m, b, sc_law_met, rfl, Or.inl rfl, by decide, by decide, fun X cdv q hK hm => ?_⟩, T.exm_law_met⟩
  subst hK hm
  exact met_gives (i := 1) (n := "e") (l := cl_law_met) sc_law_met.nd rfl rfl (by decide) (by decide) (.cons (.cons .nil) (.cons (.cons .nil) (.cons (.cons .nil) .nil))) T.clo_law_met (fun _ => rfl)
/-! _law_told_sum -/
abbrev s_law_told_sum : Stmt := (topS 58)
def M_law_told_sum_b1 : MS := (sIf (mAnd (mOp gEq (mOp gSub (mV 4) (mC (.int 0))) (mV 3)) (mOp gNe (mOp gSub (mV 1) (mV 4)) (mC (.int 0)))) (sApp 2 (mAgs gTupD (aCons (mV 4) (aCons (mOp gSub (mV 1) (mV 4)) aNil)))) sNil)
def M_law_told_sum_b2 : MS := (sFor (mIter (mAgs (b1 gSortG) (aCons (mV 1) aNil))) (gN 4) M_law_told_sum_b1)
abbrev N_law_told_sum : List Str := ["_law_number", "_law_factors", "_law_parts", "_law_kind", "_law_unknown"]
theorem sc_law_told_sum : FnScope N_law_told_sum ["_law_number", "_law_factors"] (defScope s_law_told_sum) := ⟨rfl, rfl, rfl, by decide +kernel, rfl, by decide +kernel, by decide +kernel⟩
def M_law_told_sum : MS := (sSeq (sAsgO 2 (mShort aNil))
  (sSeq (sFor (mIter (mAgs gTupD (aCons (mC (.str "piece")) (aCons (mC (.str "name")) aNil)))) (gN 3) M_law_told_sum_b2)
  (sFrz 2 (sRet (mAgs gTupD (aCons (mV 0) (aCons (mAgs (b1 gTupOf) (aCons (mV 2) aNil)) aNil)))))))
def F_law_told_sum : List D → FR := runF M_law_told_sum 2 3
theorem ok_law_told_sum (T : Txt K mg cls) : Df Pr w K mg base 1 "_law_told_sum" (spF K cls F_law_told_sum) :=
  dfF1 N_law_told_sum ["_law_number", "_law_factors"] M_law_told_sum 2 3 0 rfl rfl T.d_law_told_sum sc_law_told_sum fun f cdv A outer s H G E hr =>
  (s_cons (s_asgO (i := 2) sc_law_told_sum.nd (o_lst a_nil))
  (s_cons (s_for po (i_any (e_tup (a_cons e_str (a_cons e_str a_nil)))) (g_n (i := 3) sc_law_told_sum.nd) (s_one (s_for po (i_any (e_b (cr_sortG (u65 hr)) d_sortG (a_cons (e_v 1) a_nil) T.n_sorted)) (g_n (i := 4) sc_law_told_sum.nd) (s_one (s_if (PW.pt (t_and (t_cmp (op_eqD hr.units) d_eq (e_sub (u1 hr) (e_v 4) e_int) (e_v 3)) (t_and1 (t_cmp (op_neD hr.units) d_ne (e_sub (u1 hr) (e_v 1) (e_v 4)) e_int)))) (s_one (s_app (i := 2) (e_tup (a_cons (e_v 4) (a_cons (e_sub (u1 hr) (e_v 1) (e_v 4)) a_nil))))) s_nil)))))
  (s_one (s_frz 2 (s_ret (e_tup (a_cons (e_v 0) (a_cons (e_ty call_tuple_of d_tupOf (a_cons (e_v 2) a_nil) T.n_tuple) a_nil))))))))
/-! _law_put_in -/
abbrev s_law_put_in : Stmt := (topS 59)
def M_law_put_in_b1 : MS := (sSeq (sIf (mAnd (mOp gEq (mOp gSub (mV 5) (mC (.int 0))) (mC (.str "name"))) (mOp gInG (mOp gSub (mV 5) (mC (.int 1))) (mV 1))) (sSeq (sAsg 3 (mOp gAdd (mV 3) (mOp iMul (mV 6) (mOp gSub (mV 1) (mOp gSub (mV 5) (mC (.int 1)))))))
  (sAsg 5 (mAgs gTupD (aCons (mC (.str "piece")) (aCons (mV 2) aNil))))) sNil)
  (sDPutX 4 (mV 5) (mOp gAdd (mDGetO 4 (mV 5) (mC (.int 0))) (mV 6))))
abbrev N_law_put_in : List Str := ["_law_one", "_law_labels", "_law_p", "_law_number", "_law_factors", "_law_unknown", "_law_many"]
theorem sc_law_put_in : FnScope N_law_put_in ["_law_one", "_law_labels", "_law_p"] (defScope s_law_put_in) := ⟨rfl, rfl, rfl, by decide +kernel, rfl, by decide +kernel, by decide +kernel⟩
def M_law_put_in : MS := (sSeq (sIf (mUn (gIsi .int) (mV 0)) (sRet (mAgs gTupD (aCons (mV 0) (aCons (mAgs gTupD aNil) aNil)))) sNil)
  (sSeq (sParV2 3 4 (vCons (mOp gSub (mV 0) (mC (.int 0))) (vConsM true vNil)))
  (sSeq (sFor (mIter (mOp gSub (mV 0) (mC (.int 1)))) (gTup2 2 (gsCons (gN 5) (gsCons (gN 6) gsNil))) M_law_put_in_b1)
  (sFrzD 4 (sRet (mCall F_law_told_sum (aCons (mV 3) (aCons (mV 4) aNil))))))))
def F_law_put_in : List D → FR := runF M_law_put_in 3 4
theorem ok_law_put_in (T : Txt K mg cls) : Df Pr w K mg base 2 "_law_put_in" (spF K cls F_law_put_in) :=
  dfF1 N_law_put_in ["_law_one", "_law_labels", "_law_p"] M_law_put_in 3 4 1 rfl rfl T.d_law_put_in sc_law_put_in fun f cdv A outer s H G E hr =>
  (s_cons (s_if (t_val (e_isi .int (e_v 0) T.n_isinstance T.n_int)) (s_one (s_ret (e_tup (a_cons (e_v 0) (a_cons (e_tup a_nil) a_nil))))) s_nil)
  (s_cons (s_parV2 (i := 3) (j := 4) sc_law_put_in.nd (v_cons (e_sub (u1 hr) (e_v 0) e_int) (v_consM m_T v_nil)))
  (s_cons (s_for po (i_any (e_sub (u1 hr) (e_v 0) e_int)) (g_tup (n := 2) (gs_cons (g_n (i := 5) sc_law_put_in.nd) (gs_cons (g_n (i := 6) sc_law_put_in.nd) gs_nil))) (s_cons (s_if (PW.pt (t_and (t_cmp (op_eqD hr.units) d_eq (e_sub (u1 hr) (e_v 5) e_int) e_str) (t_and1 (t_cmp (op_inG (u65 hr)) d_inG (e_sub (u1 hr) (e_v 5) e_int) (e_v 1))))) (s_cons (s_asg (i := 3) sc_law_put_in.nd (e_op op_addG d_addG (e_v 3) (e_op op_mul d_mul (e_v 6) (e_sub (u1 hr) (e_v 1) (e_sub (u1 hr) (e_v 5) e_int)))))
  (s_one (s_asg (i := 5) sc_law_put_in.nd (e_tup (a_cons e_str (a_cons (e_v 2) a_nil)))))) s_nil)
  (s_one (s_dputX (i := 4) (u1 hr) (e_v 5) (e_op op_addG d_addG (e_dgetO (i := 4) (u1 hr) (e_v 5) e_int) (e_v 6))))))
  (s_one (s_frzd 4 (s_ret (e_df (ok_law_told_sum T) hr px (a_cons (e_v 3) (a_cons (e_v 4) a_nil)))))))))
/-! _law_coded -/
abbrev s_law_coded : Stmt := (topS 60)
def M_law_coded_b1 : MS := (sSeq (sIf (mOp gEq (mOp gSub (mV 9) (mC (.int 0))) (mC (.str "words"))) (sExt 7 (mFrz (mLc (mIter (mOp gSub (mV 9) (mC (.int 1)))) (gN 12) mYes (mCall F_law_put_in (aCons (mV 12) (aCons (mV 3) (aCons (mV 2) aNil)))) [12]))) sNil)
  (sSeq (sIf (mOp gEq (mOp gSub (mV 9) (mC (.int 0))) (mC (.str "even"))) (sExt 7 (mOp lRep (mAgs gLstD (aCons (mAgs gTupD (aCons (mC (.int 9)) (aCons (mAgs gTupD aNil) aNil))) aNil)) (mOp iSub (mOp gSub (mV 4) (mOp gAdd (mV 8) (mC (.int 1)))) (mOp gSub (mV 4) (mV 8))))) sNil)
  (sIf (mOp gEq (mOp gSub (mV 9) (mC (.int 0))) (mC (.str "branch"))) (sSeq (sAsg 10 (mOp gSub (mDisp [((mC (.str "ask")), (mC (.int 3))), ((mC (.str "go")), (mC (.int 5))), ((mC (.str "call")), (mC (.int 14)))]) (mOp gSub (mV 9) (mC (.int 1)))))
  (sIf (mOp gNotInG (mV 8) (mV 1)) (sApp 7 (mAgs gTupD (aCons (mOp gAdd (mV 10) (mOp iMul (mC (.int 2048)) (mOp gSub (mV 5) (mV 8)))) (aCons (mAgs gTupD aNil) aNil)))) (sSeq (sApp 7 (mAgs gTupD (aCons (mOp gAdd (mV 10) (mC (.int 1))) (aCons (mAgs gTupD aNil) aNil))))
  (sApp 7 (mCall F_law_put_in (aCons (mAgs gTupD (aCons (mOp gSub (mV 9) (mC (.int 3))) (aCons (mAgs gTupD (aCons (mAgs gTupD (aCons (mAgs gTupD (aCons (mC (.str "name")) (aCons (mOp gSub (mV 9) (mC (.int 2))) aNil))) (aCons (mC (.int 1)) aNil))) aNil)) aNil))) (aCons (mV 3) (aCons (mV 2) aNil)))))))) sNil)))
abbrev N_law_coded : List Str := ["_law_rows", "_law_far", "_law_p", "_law_labels", "_law_begins_here", "_law_gaps", "_law_spots_here", "_law_found", "_law_k", "_law_row_here", "_law_code", "_law_n", "_law_one"]
theorem sc_law_coded : FnScope N_law_coded ["_law_rows", "_law_far", "_law_p"] (defScope s_law_coded) := ⟨rfl, rfl, rfl, by decide +kernel, rfl, by decide +kernel, by decide +kernel⟩
def M_law_coded : MS := (sSeq (sParT [4, 5, 6, 7] (vCons (mCall F_law_begins (aCons (mV 0) (aCons (mV 1) aNil))) (vCons (mCall F_law_ways (aCons (mV 0) (aCons (mV 1) aNil))) (vCons (mCall F_law_spots (aCons (mV 0) aNil)) (vConsO (mShort aNil) vNil)))))
  (sSeq (sAsg 3 (mAgs (b1 gDictOf) (aCons (mFrz (mLc (mIter (mV 6)) (gN 11) mYes (mAgs gTupD (aCons (mV 11) (aCons (mOp gSub (mV 4) (mOp gSub (mV 6) (mV 11))) aNil))) [11])) aNil)))
  (sSeq (sFor (mIt enumOf (aCons (mV 0) aNil)) (gTup2 2 (gsCons (gN 8) (gsCons (gN 9) gsNil))) M_law_coded_b1)
  (sFrz 7 (sRet (mV 7))))))
def F_law_coded : List D → FR := runF M_law_coded 3 10
theorem ok_law_coded (T : Txt K mg cls) : Df Pr w K mg base 3 "_law_coded" (spF K cls F_law_coded) :=
  dfF1 N_law_coded ["_law_rows", "_law_far", "_law_p"] M_law_coded 3 10 2 rfl rfl T.d_law_coded sc_law_coded fun f cdv A outer s H G E hr =>
  (s_cons (s_parT (n := 4) (v_cons (e_df (ok_law_begins T) hr px (a_cons (e_v 0) (a_cons (e_v 1) a_nil))) (v_cons (e_df (ok_law_ways T) hr px (a_cons (e_v 0) (a_cons (e_v 1) a_nil))) (v_cons (e_df (ok_law_spots T) hr px (a_cons (e_v 0) a_nil)) (v_consO (o_lst a_nil) v_nil)))) (gv_cons (i := 4) sc_law_coded.nd (gv_cons (i := 5) sc_law_coded.nd (gv_cons (i := 6) sc_law_coded.nd (gv_cons (i := 7) sc_law_coded.nd gv_nil)))))
  (s_cons (s_asg (i := 3) sc_law_coded.nd (e_dictOf T.n_dict (a_cons (e_frz (o_lc (own := [("_law_n", 11)]) sc_law_coded.nd (i_any (e_v 6)) (blkOk_by (N := N_law_coded) (sc := defScope s_law_coded) (by decide +kernel)) (fun _ _ _ _ _ => (gk_n (i := 11) sc_law_coded.nd)) (fun _ _ _ _ _ => c_yes) (fun _ _ _ _ _ => (e_tup (a_cons (e_v 11) (a_cons (e_sub (u1 hr) (e_v 4) (e_sub (u1 hr) (e_v 6) (e_v 11))) a_nil)))))) a_nil)))
  (s_cons (s_for po (i_enum T.n_enumerate (a_cons (e_v 0) a_nil)) (g_tup (n := 2) (gs_cons (g_n (i := 8) sc_law_coded.nd) (gs_cons (g_n (i := 9) sc_law_coded.nd) gs_nil))) (s_cons (s_if (t_cmp (op_eqD hr.units) d_eq (e_sub (u1 hr) (e_v 9) e_int) e_str) (s_one (s_ext (i := 7) (e_frz (o_lc (own := [("_law_one", 12)]) sc_law_coded.nd (i_any (e_sub (u1 hr) (e_v 9) e_int)) (blkOk_by (N := N_law_coded) (sc := defScope s_law_coded) (by decide +kernel)) (fun _ _ _ _ _ => (gk_n (i := 12) sc_law_coded.nd)) (fun _ _ _ _ _ => c_yes) (fun _ _ _ _ _ => (e_df (ok_law_put_in T) hr passL (a_cons (e_v 12) (a_cons (e_v 3) (a_cons (e_v 2) a_nil))))))))) s_nil)
  (s_cons (s_if (t_cmp (op_eqD hr.units) d_eq (e_sub (u1 hr) (e_v 9) e_int) e_str) (s_one (s_ext (i := 7) (e_op op_rep d_rep (e_lst (a_cons (e_tup (a_cons e_int (a_cons (e_tup a_nil) a_nil))) a_nil)) (e_op op_sub d_sub (e_sub (u1 hr) (e_v 4) (e_op op_addG d_addG (e_v 8) e_int)) (e_sub (u1 hr) (e_v 4) (e_v 8)))))) s_nil)
  (s_one (s_if (t_cmp (op_eqD hr.units) d_eq (e_sub (u1 hr) (e_v 9) e_int) e_str) (s_cons (s_asg (i := 10) sc_law_coded.nd (e_sub (u1 hr) (e_disp (dp_cons e_str e_int (dp_cons e_str e_int (dp_cons e_str e_int dp_nil)))) (e_sub (u1 hr) (e_v 9) e_int)))
  (s_one (s_if (t_cmp (op_notInG (u65 hr)) d_notInG (e_v 8) (e_v 1)) (s_one (s_app (i := 7) (e_tup (a_cons (e_op op_addG d_addG (e_v 10) (e_op op_mul d_mul e_int (e_sub (u1 hr) (e_v 5) (e_v 8)))) (a_cons (e_tup a_nil) a_nil))))) (s_cons (s_app (i := 7) (e_tup (a_cons (e_op op_addG d_addG (e_v 10) e_int) (a_cons (e_tup a_nil) a_nil))))
  (s_one (s_app (i := 7) (e_df (ok_law_put_in T) hr px (a_cons (e_tup (a_cons (e_sub (u1 hr) (e_v 9) e_int) (a_cons (e_tup (a_cons (e_tup (a_cons (e_tup (a_cons e_str (a_cons (e_sub (u1 hr) (e_v 9) e_int) a_nil))) (a_cons e_int a_nil))) a_nil)) a_nil))) (a_cons (e_v 3) (a_cons (e_v 2) a_nil)))))))))) s_nil)))))
  (s_one (s_frz 7 (s_ret (e_v 7)))))))
/-! Draft.branches -/
abbrev s_Draft_branches : Stmt := (inS 41 4)
abbrev N_Draft_branches : List Str := ["self", "index", "row"]
theorem sc_Draft_branches : FnScope N_Draft_branches ["self"] (defScope s_Draft_branches) := ⟨rfl, rfl, rfl, by decide +kernel, rfl, by decide +kernel, by decide +kernel⟩
def M_Draft_branches : MS := (sRet (mAgs (b1 gTupOf) (aCons (mFrz (mLc (mIt enumOf (aCons (mUn (gFld "Draft" "draft_rows") (mV 0)) aNil)) (gTup2 2 (gsCons (gN 1) (gsCons (gN 2) gsNil))) (mOp gEq (mOp gSub (mV 2) (mC (.int 0))) (mC (.str "branch"))) (mV 1) [1, 2])) aNil)))
def F_Draft_branches : List D → FR := runF M_Draft_branches 1 2
theorem ok_Draft_branches (T : Txt K mg cls) : MtD Pr w K mg base 1 "Draft" "branches" (spF K cls F_Draft_branches) :=
  mtF1 N_Draft_branches ["self"] M_Draft_branches 1 2 0 rfl rfl T.m_Draft_branches sc_Draft_branches fun f cdv A outer s H G E hr =>
  (s_one (s_ret (e_ty call_tuple_of d_tupOf (a_cons (e_frz (o_lc (own := [("index", 1), ("row", 2)]) sc_Draft_branches.nd (i_enum T.n_enumerate (a_cons (e_fld T.cf_Draft T.nf_Draft_draft_rows (e_v 0)) a_nil)) (blkOk_by (N := N_Draft_branches) (sc := defScope s_Draft_branches) (by decide +kernel)) (fun _ _ _ _ _ => (gk_tup (n := 2) (gks_cons (gk_n (i := 1) sc_Draft_branches.nd) (gks_cons (gk_n (i := 2) sc_Draft_branches.nd) gks_nil)))) (fun _ _ _ _ _ => (c_one (t_cmp (op_eqD hr.units) d_eq (e_sub (u1 hr) (e_v 2) e_int) e_str))) (fun _ _ _ _ _ => (e_v 1)))) a_nil) T.n_tuple)))
/-! Draft.leads_out -/
abbrev s_Draft_leads_out : Stmt := (inS 41 5)
abbrev N_Draft_leads_out : List Str := ["self", "index"]
theorem sc_Draft_leads_out : FnScope N_Draft_leads_out ["self", "index"] (defScope s_Draft_leads_out) := ⟨rfl, rfl, rfl, by decide +kernel, rfl, by decide +kernel, by decide +kernel⟩
def M_Draft_leads_out : MS := (sRet (mOp gNotInG (mOp gSub (mOp gSub (mUn (gFld "Draft" "draft_rows") (mV 0)) (mV 1)) (mC (.int 2))) (mUn (gFld "Draft" "labels") (mV 0))))
def F_Draft_leads_out : List D → FR := runF M_Draft_leads_out 2 0
theorem ok_Draft_leads_out (T : Txt K mg cls) : MtD Pr w K mg base 1 "Draft" "leads_out" (spF K cls F_Draft_leads_out) :=
  mtF1 N_Draft_leads_out ["self", "index"] M_Draft_leads_out 2 0 0 rfl rfl T.m_Draft_leads_out sc_Draft_leads_out fun f cdv A outer s H G E hr =>
  (s_one (s_ret (e_cmp (op_notInG (u65 hr)) d_notInG (e_sub (u1 hr) (e_sub (u1 hr) (e_fld T.cf_Draft T.nf_Draft_draft_rows (e_v 0)) (e_v 1)) e_int) (e_fld T.cf_Draft T.nf_Draft_labels (e_v 0)))))
/-! Draft.out -/
abbrev s_Draft_out : Stmt := (inS 41 6)
abbrev N_Draft_out : List Str := ["self", "index"]
theorem sc_Draft_out : FnScope N_Draft_out ["self"] (defScope s_Draft_out) := ⟨rfl, rfl, rfl, by decide +kernel, rfl, by decide +kernel, by decide +kernel⟩
def M_Draft_out : MS := (sRet (mAgs (b1 gTupOf) (aCons (mFrz (mLc (mIter (mMeth "Draft" "branches" F_Draft_branches (mV 0) aNil)) (gN 1) (mMeth "Draft" "leads_out" F_Draft_leads_out (mV 0) (aCons (mV 1) aNil)) (mV 1) [1])) aNil)))
def F_Draft_out : List D → FR := runF M_Draft_out 1 1
theorem ok_Draft_out (T : Txt K mg cls) : MtD Pr w K mg base 2 "Draft" "out" (spF K cls F_Draft_out) :=
  mtF1 N_Draft_out ["self"] M_Draft_out 1 1 1 rfl rfl T.m_Draft_out sc_Draft_out fun f cdv A outer s H G E hr =>
  (s_one (s_ret (e_ty call_tuple_of d_tupOf (a_cons (e_frz (o_lc (own := [("index", 1)]) sc_Draft_out.nd (i_any (e_meth0 (ok_Draft_branches T) hr px (e_v 0))) (blkOk_by (N := N_Draft_out) (sc := defScope s_Draft_out) (by decide +kernel)) (fun _ _ _ _ _ => (gk_n (i := 1) sc_Draft_out.nd)) (fun _ _ _ _ _ => (c_one (t_val (e_meth (ok_Draft_leads_out T) hr passL (e_v 0) (a_cons (e_v 1) a_nil))))) (fun _ _ _ _ _ => (e_v 1)))) a_nil) T.n_tuple)))
/-! Draft.checked -/
abbrev s_Draft_checked : Stmt := (inS 41 8)
abbrev N_Draft_checked : List Str := ["self", "choice", "branches", "index"]
theorem sc_Draft_checked : FnScope N_Draft_checked ["self", "choice"] (defScope s_Draft_checked) := ⟨rfl, rfl, rfl, by decide +kernel, rfl, by decide +kernel, by decide +kernel⟩
def M_Draft_checked : MS := (sSeq (sAsg 2 (mMeth "Draft" "branches" F_Draft_branches (mV 0) aNil))
  (sSeq (sIf (mOr (mNot (mCall F_is_list (aCons (mV 1) aNil))) (mNot (mAgs (b1 gAll) (aCons (mFrz (mLc (mIter (mV 1)) (gN 3) mYes (mAnd (mCall F_is_integer (aCons (mV 3) aNil)) (mOp gInG (mV 3) (mV 2))) [3])) aNil)))) (sRaise "BadChoice" ["thing"] (aCons (mV 1) aNil)) sNil)
  (sSeq (sIf (mOr (mOp gNe (mUn gLenSet (mV 1)) (mAgs (b1 gLen) (aCons (mV 1) aNil))) (mNot (mAgs (b1 gAll) (aCons (mFrz (mLc (mIter (mMeth "Draft" "out" F_Draft_out (mV 0) aNil)) (gN 3) mYes (mOp gInG (mV 3) (mV 1)) [3])) aNil)))) (sRaise "BadChoice" ["thing"] (aCons (mV 1) aNil)) sNil)
  (sRet (mAgs (b1 gTupOf) (aCons (mAgs (b1 gSortG) (aCons (mV 1) aNil)) aNil))))))
def F_Draft_checked : List D → FR := runF M_Draft_checked 2 2
theorem ok_Draft_checked (T : Txt K mg cls) : MtD Pr w K mg base 3 "Draft" "checked" (spF K cls F_Draft_checked) :=
  mtF1 N_Draft_checked ["self", "choice"] M_Draft_checked 2 2 2 rfl rfl T.m_Draft_checked sc_Draft_checked fun f cdv A outer s H G E hr =>
  (s_cons (s_asg (i := 2) sc_Draft_checked.nd (e_meth0 (ok_Draft_branches T) hr px (e_v 0)))
  (s_cons (s_if (PW.pt (t_or (t_not (t_val (e_df (ok_is_list T) hr px (a_cons (e_v 1) a_nil)))) (t_or1 (t_not (t_val (e_b (cr_all rfl) d_all (a_cons (e_frz (o_lc (own := [("index", 3)]) sc_Draft_checked.nd (i_any (e_v 1)) (blkOk_by (N := N_Draft_checked) (sc := defScope s_Draft_checked) (by decide +kernel)) (fun _ _ _ _ _ => (gk_n (i := 3) sc_Draft_checked.nd)) (fun _ _ _ _ _ => c_yes) (fun _ _ _ _ _ => (e_and (e_df (ok_is_integer T) hr passL (a_cons (e_v 3) a_nil)) (e_one (e_cmp (op_inG (u65 hr)) d_inG (e_v 3) (e_v 2))))))) a_nil) T.n_all)))))) (s_one (s_raise (takes_of rfl rfl rfl rfl) (ox_BadChoice T) hr (a_cons (e_v 1) a_nil))) s_nil)
  (s_cons (s_if (PW.pt (t_or (t_cmp (op_neD hr.units) d_ne (e_lenSet T.n_len T.n_set (e_v 1)) (e_b call_len d_len (a_cons (e_v 1) a_nil) T.n_len)) (t_or1 (t_not (t_val (e_b (cr_all rfl) d_all (a_cons (e_frz (o_lc (own := [("index", 3)]) sc_Draft_checked.nd (i_any (e_meth0 (ok_Draft_out T) hr px (e_v 0))) (blkOk_by (N := N_Draft_checked) (sc := defScope s_Draft_checked) (by decide +kernel)) (fun _ _ _ _ _ => (gk_n (i := 3) sc_Draft_checked.nd)) (fun _ _ _ _ _ => c_yes) (fun _ _ _ _ _ => (e_cmp (op_inG (u65 hr)) d_inG (e_v 3) (e_v 1))))) a_nil) T.n_all)))))) (s_one (s_raise (takes_of rfl rfl rfl rfl) (ox_BadChoice T) hr (a_cons (e_v 1) a_nil))) s_nil)
  (s_one (s_ret (e_ty call_tuple_of d_tupOf (a_cons (e_b (cr_sortG (u65 hr)) d_sortG (a_cons (e_v 1) a_nil) T.n_sorted) a_nil) T.n_tuple))))))
/-! Draft.length_of -/
abbrev s_Draft_length_of : Stmt := (inS 41 9)
abbrev N_Draft_length_of : List Str := ["self", "index", "offset", "choice", "row"]
theorem sc_Draft_length_of : FnScope N_Draft_length_of ["self", "index", "offset", "choice"] (defScope s_Draft_length_of) := ⟨rfl, rfl, rfl, by decide +kernel, rfl, by decide +kernel, by decide +kernel⟩
def M_Draft_length_of : MS := (sSeq (sAsg 4 (mOp gSub (mUn (gFld "Draft" "draft_rows") (mV 0)) (mV 1)))
  (sSeq (sIf (mOp gEq (mOp gSub (mV 4) (mC (.int 0))) (mC (.str "words"))) (sRet (mAgs (b1 gLen) (aCons (mOp gSub (mV 4) (mC (.int 1))) aNil))) sNil)
  (sSeq (sIf (mOp gEq (mOp gSub (mV 4) (mC (.int 0))) (mC (.str "even"))) (sRet (mOp iMod (mUn iNeg (mV 2)) (mOp gSub (mV 4) (mC (.int 1))))) sNil)
  (sSeq (sIf (mOp gEq (mOp gSub (mV 4) (mC (.int 0))) (mC (.str "branch"))) (sRet (mIf (mOp gInG (mV 1) (mV 3)) (mC (.int 2)) (mC (.int 1)))) sNil)
  (sRet (mC (.int 0)))))))
def F_Draft_length_of : List D → FR := runF M_Draft_length_of 4 1
theorem ok_Draft_length_of (T : Txt K mg cls) : MtD Pr w K mg base 1 "Draft" "length_of" (spF K cls F_Draft_length_of) :=
  mtF1 N_Draft_length_of ["self", "index", "offset", "choice"] M_Draft_length_of 4 1 0 rfl rfl T.m_Draft_length_of sc_Draft_length_of fun f cdv A outer s H G E hr =>
  (s_cons (s_asg (i := 4) sc_Draft_length_of.nd (e_sub (u1 hr) (e_fld T.cf_Draft T.nf_Draft_draft_rows (e_v 0)) (e_v 1)))
  (s_cons (s_if (t_cmp (op_eqD hr.units) d_eq (e_sub (u1 hr) (e_v 4) e_int) e_str) (s_one (s_ret (e_b call_len d_len (a_cons (e_sub (u1 hr) (e_v 4) e_int) a_nil) T.n_len))) s_nil)
  (s_cons (s_if (t_cmp (op_eqD hr.units) d_eq (e_sub (u1 hr) (e_v 4) e_int) e_str) (s_one (s_ret (e_op op_mod d_mod (e_un un_neg d_neg (e_v 2)) (e_sub (u1 hr) (e_v 4) e_int)))) s_nil)
  (s_cons (s_if (t_cmp (op_eqD hr.units) d_eq (e_sub (u1 hr) (e_v 4) e_int) e_str) (s_one (s_ret (e_if (t_cmp (op_inG (u65 hr)) d_inG (e_v 1) (e_v 3)) e_int e_int))) s_nil)
  (s_one (s_ret e_int))))))
/-! Draft.begins -/
abbrev s_Draft_begins : Stmt := (inS 41 10)
def M_Draft_begins_b1 : MS := (sApp 2 (mOp gAdd (mIxO 2 (mUn iNeg (mC (.int 1)))) (mMeth "Draft" "length_of" F_Draft_length_of (mV 0) (aCons (mV 3) (aCons (mIxO 2 (mUn iNeg (mC (.int 1)))) (aCons (mV 1) aNil))))))
abbrev N_Draft_begins : List Str := ["self", "choice", "found", "index"]
theorem sc_Draft_begins : FnScope N_Draft_begins ["self", "choice"] (defScope s_Draft_begins) := ⟨rfl, rfl, rfl, by decide +kernel, rfl, by decide +kernel, by decide +kernel⟩
def M_Draft_begins : MS := (sSeq (sAsgO 2 (mShort (aCons (mC (.int 0)) aNil)))
  (sSeq (sFor (mRng1 (aCons (mAgs (b1 gLen) (aCons (mUn (gFld "Draft" "draft_rows") (mV 0)) aNil)) aNil)) (gN 3) M_Draft_begins_b1)
  (sFrz 2 (sRet (mV 2)))))
def F_Draft_begins : List D → FR := runF M_Draft_begins 2 2
theorem ok_Draft_begins (T : Txt K mg cls) : MtD Pr w K mg base 2 "Draft" "begins" (spF K cls F_Draft_begins) :=
  mtF1 N_Draft_begins ["self", "choice"] M_Draft_begins 2 2 1 rfl rfl T.m_Draft_begins sc_Draft_begins fun f cdv A outer s H G E hr =>
  (s_cons (s_asgO (i := 2) sc_Draft_begins.nd (o_lst (a_cons e_int a_nil)))
  (s_cons (s_for po (i_rng1 T.n_range (a_cons (e_b call_len d_len (a_cons (e_fld T.cf_Draft T.nf_Draft_draft_rows (e_v 0)) a_nil) T.n_len) a_nil)) (g_n (i := 3) sc_Draft_begins.nd) (s_one (s_app (i := 2) (e_op op_addG d_addG (e_ixO (i := 2) (e_un un_neg d_neg e_int)) (e_meth (ok_Draft_length_of T) hr px (e_v 0) (a_cons (e_v 3) (a_cons (e_ixO (i := 2) (e_un un_neg d_neg e_int)) (a_cons (e_v 1) a_nil))))))))
  (s_one (s_frz 2 (s_ret (e_v 2))))))
/-! Draft.open_ones -/
abbrev s_Draft_open_ones : Stmt := (inS 41 7)
abbrev N_Draft_open_ones : List Str := ["self", "index"]
theorem sc_Draft_open_ones : FnScope N_Draft_open_ones ["self"] (defScope s_Draft_open_ones) := ⟨rfl, rfl, rfl, by decide +kernel, rfl, by decide +kernel, by decide +kernel⟩
def M_Draft_open_ones : MS := (sRet (mAgs (b1 gTupOf) (aCons (mFrz (mLc (mIter (mMeth "Draft" "branches" F_Draft_branches (mV 0) aNil)) (gN 1) (mNot (mMeth "Draft" "leads_out" F_Draft_leads_out (mV 0) (aCons (mV 1) aNil))) (mV 1) [1])) aNil)))
def F_Draft_open_ones : List D → FR := runF M_Draft_open_ones 1 1
theorem ok_Draft_open_ones (T : Txt K mg cls) : MtD Pr w K mg base 2 "Draft" "open_ones" (spF K cls F_Draft_open_ones) :=
  mtF1 N_Draft_open_ones ["self"] M_Draft_open_ones 1 1 1 rfl rfl T.m_Draft_open_ones sc_Draft_open_ones fun f cdv A outer s H G E hr =>
  (s_one (s_ret (e_ty call_tuple_of d_tupOf (a_cons (e_frz (o_lc (own := [("index", 1)]) sc_Draft_open_ones.nd (i_any (e_meth0 (ok_Draft_branches T) hr px (e_v 0))) (blkOk_by (N := N_Draft_open_ones) (sc := defScope s_Draft_open_ones) (by decide +kernel)) (fun _ _ _ _ _ => (gk_n (i := 1) sc_Draft_open_ones.nd)) (fun _ _ _ _ _ => (c_one (t_not (t_val (e_meth (ok_Draft_leads_out T) hr passL (e_v 0) (a_cons (e_v 1) a_nil)))))) (fun _ _ _ _ _ => (e_v 1)))) a_nil) T.n_tuple)))
/-! Draft.ways -/
abbrev s_Draft_ways : Stmt := (inS 41 12)
abbrev N_Draft_ways : List Str := ["self", "choice", "begins", "index"]
theorem sc_Draft_ways : FnScope N_Draft_ways ["self", "choice"] (defScope s_Draft_ways) := ⟨rfl, rfl, rfl, by decide +kernel, rfl, by decide +kernel, by decide +kernel⟩
def M_Draft_ways : MS := (sSeq (sAsg 2 (mMeth "Draft" "begins" F_Draft_begins (mV 0) (aCons (mV 1) aNil)))
  (sRet (mDc (mIter (mMeth "Draft" "open_ones" F_Draft_open_ones (mV 0) aNil)) (gN 3) mYes (mV 3) (mOp iSub (mOp gSub (mV 2) (mOp gSub (mUn (gFld "Draft" "labels") (mV 0)) (mOp gSub (mOp gSub (mUn (gFld "Draft" "draft_rows") (mV 0)) (mV 3)) (mC (.int 2))))) (mOp gSub (mV 2) (mV 3))) [3])))
def F_Draft_ways : List D → FR := runF M_Draft_ways 2 2
theorem ok_Draft_ways (T : Txt K mg cls) : MtD Pr w K mg base 3 "Draft" "ways" (spF K cls F_Draft_ways) :=
  mtF1 N_Draft_ways ["self", "choice"] M_Draft_ways 2 2 2 rfl rfl T.m_Draft_ways sc_Draft_ways fun f cdv A outer s H G E hr =>
  (s_cons (s_asg (i := 2) sc_Draft_ways.nd (e_meth (ok_Draft_begins T) hr px (e_v 0) (a_cons (e_v 1) a_nil)))
  (s_one (s_ret (e_dc (own := [("index", 3)]) sc_Draft_ways.nd (i_any (e_meth0 (ok_Draft_open_ones T) hr px (e_v 0))) (blkOk_by (N := N_Draft_ways) (sc := defScope s_Draft_ways) (by decide +kernel)) (fun _ _ _ _ _ => (gk_n (i := 3) sc_Draft_ways.nd)) (fun _ _ _ _ _ => c_yes) (fun _ _ _ _ _ => (e_v 3)) (fun _ _ _ _ _ => (e_op op_sub d_sub (e_sub (u1 hr) (e_v 2) (e_sub (u1 hr) (e_fld T.cf_Draft T.nf_Draft_labels (e_v 0)) (e_sub (u1 hr) (e_sub (u1 hr) (e_fld T.cf_Draft T.nf_Draft_draft_rows (e_v 0)) (e_v 3)) e_int))) (e_sub (u1 hr) (e_v 2) (e_v 3))))))))
/-! Draft.too_long -/
abbrev s_Draft_too_long : Stmt := (inS 41 14)
abbrev N_Draft_too_long : List Str := ["self", "choice", "ways", "index"]
theorem sc_Draft_too_long : FnScope N_Draft_too_long ["self", "choice"] (defScope s_Draft_too_long) := ⟨rfl, rfl, rfl, by decide +kernel, rfl, by decide +kernel, by decide +kernel⟩
def M_Draft_too_long : MS := (sSeq (sAsg 2 (mMeth "Draft" "ways" F_Draft_ways (mV 0) (aCons (mV 1) aNil)))
  (sRet (mFrz (mLc (mIter (mV 2)) (gN 3) (mAnd (mOp gNotInG (mV 3) (mV 1)) (mNot (mChain iLe iLe (mC c_LOW) (mOp gSub (mV 2) (mV 3)) (mC c_HIGH)))) (mV 3) [3]))))
def F_Draft_too_long : List D → FR := runF M_Draft_too_long 2 2
theorem ok_Draft_too_long (T : Txt K mg cls) : MtD Pr w K mg base 4 "Draft" "too_long" (spF K cls F_Draft_too_long) :=
  mtF1 N_Draft_too_long ["self", "choice"] M_Draft_too_long 2 2 3 rfl rfl T.m_Draft_too_long sc_Draft_too_long fun f cdv A outer s H G E hr =>
  (s_cons (s_asg (i := 2) sc_Draft_too_long.nd (e_meth (ok_Draft_ways T) hr px (e_v 0) (a_cons (e_v 1) a_nil)))
  (s_one (s_ret (e_frz (o_lc (own := [("index", 3)]) sc_Draft_too_long.nd (i_any (e_v 2)) (blkOk_by (N := N_Draft_too_long) (sc := defScope s_Draft_too_long) (by decide +kernel)) (fun _ _ _ _ _ => (gk_n (i := 3) sc_Draft_too_long.nd)) (fun _ _ _ _ _ => (c_one (PW.pt (t_and (t_cmp (op_notInG (u65 hr)) d_notInG (e_v 3) (e_v 1)) (t_and1 (t_not (t_chain op_le op_le d_le d_le (e_g T.g_LOW) (e_sub (u1 hr) (e_v 2) (e_v 3)) (e_g T.g_HIGH)))))))) (fun _ _ _ _ _ => (e_v 3)))))))
/-! sum_at -/
abbrev s_sum_at : Stmt := (topS 27)
abbrev N_sum_at : List Str := ["p", "k"]
theorem sc_sum_at : FnScope N_sum_at ["p", "k"] (defScope s_sum_at) := ⟨rfl, rfl, rfl, by decide +kernel, rfl, by decide +kernel, by decide +kernel⟩
def M_sum_at : MS := (sRet (mAgs gTupD (aCons (mV 1) (aCons (mAgs gTupD (aCons (mAgs gTupD (aCons (mAgs gTupD (aCons (mC (.str "piece")) (aCons (mV 0) aNil))) (aCons (mC (.int 1)) aNil))) aNil)) aNil))))
def F_sum_at : List D → FR := runF M_sum_at 2 0
theorem ok_sum_at (T : Txt K mg cls) : Df Pr w K mg base 1 "sum_at" (spF K cls F_sum_at) :=
  dfF1 N_sum_at ["p", "k"] M_sum_at 2 0 0 rfl rfl T.d_sum_at sc_sum_at fun f cdv A outer s H G E hr =>
  (s_one (s_ret (e_tup (a_cons (e_v 1) (a_cons (e_tup (a_cons (e_tup (a_cons (e_tup (a_cons e_str (a_cons (e_v 0) a_nil))) (a_cons e_int a_nil))) a_nil)) a_nil)))))
/-! added -/
abbrev s_added : Stmt := (topS 24)
abbrev N_added : List Str := ["one", "other", "many", "pairs", "unknown", "multiple"]
theorem sc_added : FnScope N_added ["one", "other", "many"] (defScope s_added) := ⟨rfl, rfl, rfl, by decide +kernel, rfl, by decide +kernel, by decide +kernel⟩
def M_added : MS := (sSeq (sAsg 3 (mOp gAdd (mAgs (b1 gLstOf) (aCons (mOp gSub (mV 0) (mC (.int 1))) aNil)) (mFrz (mLc (mIter (mOp gSub (mV 1) (mC (.int 1)))) (gTup2 2 (gsCons (gN 4) (gsCons (gN 5) gsNil))) mYes (mAgs gTupD (aCons (mV 4) (aCons (mOp iMul (mV 2) (mV 5)) aNil))) [4, 5]))))
  (sRet (mCall F_summed (aCons (mOp gAdd (mOp gSub (mV 0) (mC (.int 0))) (mOp iMul (mV 2) (mOp gSub (mV 1) (mC (.int 0))))) (aCons (mV 3) aNil)))))
def F_added : List D → FR := runF M_added 3 3
theorem ok_added (T : Txt K mg cls) : Df Pr w K mg base 5 "added" (spF K cls F_added) :=
  dfF1 N_added ["one", "other", "many"] M_added 3 3 4 rfl rfl T.d_added sc_added fun f cdv A outer s H G E hr =>
  (s_cons (s_asg (i := 3) sc_added.nd (e_op op_addG d_addG (e_ty call_list_of d_lstOf (a_cons (e_sub (u1 hr) (e_v 0) e_int) a_nil) T.n_list) (e_frz (o_lc (own := [("unknown", 4), ("multiple", 5)]) sc_added.nd (i_any (e_sub (u1 hr) (e_v 1) e_int)) (blkOk_by (N := N_added) (sc := defScope s_added) (by decide +kernel)) (fun _ _ _ _ _ => (gk_tup (n := 2) (gks_cons (gk_n (i := 4) sc_added.nd) (gks_cons (gk_n (i := 5) sc_added.nd) gks_nil)))) (fun _ _ _ _ _ => c_yes) (fun _ _ _ _ _ => (e_tup (a_cons (e_v 4) (a_cons (e_op op_mul d_mul (e_v 2) (e_v 5)) a_nil))))))))
  (s_one (s_ret (e_df (ok_summed T) hr px (a_cons (e_op op_addG d_addG (e_sub (u1 hr) (e_v 0) e_int) (e_op op_mul d_mul (e_v 2) (e_sub (u1 hr) (e_v 1) e_int))) (a_cons (e_v 3) a_nil))))))
/-! put -/
abbrev s_put : Stmt := (topS 25)
def M_put_b1 : MS := (sAsg 2 (mCall F_added (aCons (mV 2) (aCons (mDGetF (mV 1) (mV 3) (mAgs gTupD (aCons (mC (.int 0)) (aCons (mAgs gTupD (aCons (mAgs gTupD (aCons (mV 3) (aCons (mC (.int 1)) aNil))) aNil)) aNil)))) (aCons (mV 4) aNil)))))
abbrev N_put : List Str := ["one", "worths", "found", "unknown", "multiple"]
theorem sc_put : FnScope N_put ["one", "worths"] (defScope s_put) := ⟨rfl, rfl, rfl, by decide +kernel, rfl, by decide +kernel, by decide +kernel⟩
def M_put : MS := (sSeq (sAsg 2 (mAgs gTupD (aCons (mOp gSub (mV 0) (mC (.int 0))) (aCons (mAgs gTupD aNil) aNil))))
  (sSeq (sFor (mIter (mOp gSub (mV 0) (mC (.int 1)))) (gTup2 2 (gsCons (gN 3) (gsCons (gN 4) gsNil))) M_put_b1)
  (sRet (mV 2))))
def F_put : List D → FR := runF M_put 2 3
theorem ok_put (T : Txt K mg cls) : Df Pr w K mg base 6 "put" (spF K cls F_put) :=
  dfF1 N_put ["one", "worths"] M_put 2 3 5 rfl rfl T.d_put sc_put fun f cdv A outer s H G E hr =>
  (s_cons (s_asg (i := 2) sc_put.nd (e_tup (a_cons (e_sub (u1 hr) (e_v 0) e_int) (a_cons (e_tup a_nil) a_nil))))
  (s_cons (s_for po (i_any (e_sub (u1 hr) (e_v 0) e_int)) (g_tup (n := 2) (gs_cons (g_n (i := 3) sc_put.nd) (gs_cons (g_n (i := 4) sc_put.nd) gs_nil))) (s_one (s_asg (i := 2) sc_put.nd (e_df (ok_added T) hr px (a_cons (e_v 2) (a_cons (e_dget2F (u1 hr) (e_v 1) (e_v 3) (e_tup (a_cons e_int (a_cons (e_tup (a_cons (e_tup (a_cons (e_v 3) (a_cons e_int a_nil))) a_nil)) a_nil)))) (a_cons (e_v 4) a_nil)))))))
  (s_one (s_ret (e_v 2)))))
/-! is_below -/
abbrev s_is_below : Stmt := (topS 34)
abbrev N_is_below : List Str := ["thing", "most"]
theorem sc_is_below : FnScope N_is_below ["thing", "most"] (defScope s_is_below) := ⟨rfl, rfl, rfl, by decide +kernel, rfl, by decide +kernel, by decide +kernel⟩
def M_is_below : MS := (sRet (mAnd (mCall F_is_integer (aCons (mV 0) aNil)) (mChain iLe iLt (mC (.int 0)) (mV 0) (mV 1))))
def F_is_below : List D → FR := runF M_is_below 2 0
theorem ok_is_below (T : Txt K mg cls) : Df Pr w K mg base 2 "is_below" (spF K cls F_is_below) :=
  dfF1 N_is_below ["thing", "most"] M_is_below 2 0 1 rfl rfl T.d_is_below sc_is_below fun f cdv A outer s H G E hr =>
  (s_one (s_ret (e_and (e_df (ok_is_integer T) hr px (a_cons (e_v 0) a_nil)) (e_one (e_chain op_le op_lt d_le d_lt e_int (e_v 0) (e_v 1))))))
/-! coded -/
abbrev s_coded : Stmt := (topS 35)
abbrev N_coded : List Str := ["code", "x", "y", "d"]
theorem sc_coded : FnScope N_coded ["code", "x", "y", "d"] (defScope s_coded) := ⟨rfl, rfl, rfl, by decide +kernel, rfl, by decide +kernel, by decide +kernel⟩
def M_coded : MS := (sSeq (sIf (mNot (mCall F_is_below (aCons (mV 0) (aCons (mC c_CODES_words) aNil)))) (sRaise "BadField" ["name"] (aCons (mC (.str "code")) aNil)) sNil)
  (sSeq (sIf (mNot (mCall F_is_below (aCons (mV 1) (aCons (mC c_FIELDS) aNil)))) (sRaise "BadField" ["name"] (aCons (mC (.str "x")) aNil)) sNil)
  (sSeq (sIf (mNot (mCall F_is_below (aCons (mV 2) (aCons (mC c_FIELDS) aNil)))) (sRaise "BadField" ["name"] (aCons (mC (.str "y")) aNil)) sNil)
  (sSeq (sIf (mNot (mCall F_is_integer (aCons (mV 3) aNil))) (sRaise "BadField" ["name"] (aCons (mC (.str "d")) aNil)) sNil)
  (sRet (mOp gAdd (mOp gAdd (mOp gAdd (mV 0) (mOp iMul (mC c_CODES_words) (mV 1))) (mOp iMul (mOp iMul (mC c_CODES_words) (mC c_FIELDS)) (mV 2))) (mOp iMul (mC c_STEP) (mV 3))))))))
def F_coded : List D → FR := runF M_coded 4 0
abbrev dvs_coded : List V := [.int 0, .int 0, .int 0]
abbrev dd_coded : List D := [.int 0, .int 0, .int 0]
theorem dv_coded (G : Hp) : RpL K G dvs_coded dd_coded := (.cons (.int _) (.cons (.int _) (.cons (.int _) .nil)))
theorem ok_coded (T : Txt K mg cls) : DfD Pr w K mg base 3 "coded" s_coded dvs_coded ["code", "x", "y", "d"] (spF K cls F_coded) :=
  dfD1 N_coded ["code", "x", "y", "d"] M_coded 4 0 2 rfl rfl T.d_coded sc_coded fun f cdv A outer s H G E hr =>
  (s_cons (s_if (t_not (t_val (e_df (ok_is_below T) hr px (a_cons (e_v 0) (a_cons (e_g T.g_CODES_words) a_nil))))) (s_one (s_raise (takes_of rfl rfl rfl rfl) (ox_BadField T) hr (a_cons e_str a_nil))) s_nil)
  (s_cons (s_if (t_not (t_val (e_df (ok_is_below T) hr px (a_cons (e_v 1) (a_cons (e_g T.g_FIELDS) a_nil))))) (s_one (s_raise (takes_of rfl rfl rfl rfl) (ox_BadField T) hr (a_cons e_str a_nil))) s_nil)
  (s_cons (s_if (t_not (t_val (e_df (ok_is_below T) hr px (a_cons (e_v 2) (a_cons (e_g T.g_FIELDS) a_nil))))) (s_one (s_raise (takes_of rfl rfl rfl rfl) (ox_BadField T) hr (a_cons e_str a_nil))) s_nil)
  (s_cons (s_if (t_not (t_val (e_df (ok_is_integer T) hr px (a_cons (e_v 3) a_nil)))) (s_one (s_raise (takes_of rfl rfl rfl rfl) (ox_BadField T) hr (a_cons e_str a_nil))) s_nil)
  (s_one (s_ret (e_op op_addG d_addG (e_op op_addG d_addG (e_op op_addG d_addG (e_v 0) (e_op op_mul d_mul (e_g T.g_CODES_words) (e_v 1))) (e_op op_mul d_mul (e_op op_mul d_mul (e_g T.g_CODES_words) (e_g T.g_FIELDS)) (e_v 2))) (e_op op_mul d_mul (e_g T.g_STEP) (e_v 3)))))))))
theorem bk_0 : ∀ f fd, FunD K "coded" "coded" (defArgs s_coded) (defBody s_coded) (defScope s_coded) dvs_coded [] f fd → ∃ its, KBn K fd ["code", "x", "y", "d"] 4 [] (fun us ws => pick [.p 0, .p 1, .p 2, .p 3] us its ws) (fun vs zs => pick [.p 0, .p 1, .p 2, .p 3] vs dvs_coded zs) := fun f fd F => bindK F (by simp) fun T kV doc pm an cdv ct us its ws h1 h2 h3 => by
  match us, its, ws, h1, h2, h3 with
  | [u0, u1, u2, u3], [i0, i1, i2], [], _, _, _ => exact ⟨_, rfl, rfl⟩
theorem bk_1 : ∀ f fd, FunD K "coded" "coded" (defArgs s_coded) (defBody s_coded) (defScope s_coded) dvs_coded [] f fd → ∃ its, KBn K fd ["code", "x", "y", "d"] 1 [] (fun us ws => pick [.p 0, .d 0, .d 1, .d 2] us its ws) (fun vs zs => pick [.p 0, .d 0, .d 1, .d 2] vs dvs_coded zs) := fun f fd F => bindK F (by simp) fun T kV doc pm an cdv ct us its ws h1 h2 h3 => by
  match us, its, ws, h1, h2, h3 with
  | [u0], [i0, i1, i2], [], _, _, _ => exact ⟨_, rfl, rfl⟩
/-! Draft.branch_words -/
abbrev s_Draft_branch_words : Stmt := (inS 41 33)
abbrev N_Draft_branch_words : List Str := ["self", "index", "choice", "p", "code", "called", "name", "more"]
theorem sc_Draft_branch_words : FnScope N_Draft_branch_words ["self", "index", "choice", "p"] (defScope s_Draft_branch_words) := ⟨rfl, rfl, rfl, by decide +kernel, rfl, by decide +kernel, by decide +kernel⟩
def M_Draft_branch_words : MS := (sSeq (sAsgT (gTup2 3 (gsCons (gN 5) (gsCons (gN 6) (gsCons (gN 7) gsNil)))) (mSl (mOp gSub (mUn (gFld "Draft" "draft_rows") (mV 0)) (mV 1)) (mInt (mC (.int 1))) (mC .non)))
  (sSeq (sAsg 4 (mOp gSub (mC (.dct false (mergeD [] [(.inr "ask", (.int 3)), (.inr "go", (.int 5)), (.inr "call", (.int 14))]))) (mV 5)))
  (sSeq (sIf (mOp gNotInG (mV 1) (mV 2)) (sRet (mAgs gLstD (aCons (mCallK F_coded [.p 0, .p 1, .p 2, .p 3] dd_coded 4 0 (aCons (mV 4) (aCons (mC (.int 0)) (aCons (mC (.int 0)) (aCons (mOp gSub (mMeth "Draft" "ways" F_Draft_ways (mV 0) (aCons (mV 2) aNil)) (mV 1)) aNil)))) aNil) aNil))) sNil)
  (sSeq (sIf (mMeth "Draft" "leads_out" F_Draft_leads_out (mV 0) (aCons (mV 1) aNil)) (sRet (mAgs gLstD (aCons (mCallK F_coded [.p 0, .d 0, .d 1, .d 2] dd_coded 1 0 (aCons (mOp gAdd (mV 4) (mC (.int 1))) aNil) aNil) (aCons (mAgs gTupD (aCons (mV 7) (aCons (mAgs gTupD (aCons (mAgs gTupD (aCons (mAgs gTupD (aCons (mC (.str "name")) (aCons (mV 6) aNil))) (aCons (mC (.int 1)) aNil))) aNil)) aNil))) aNil)))) sNil)
  (sRet (mAgs gLstD (aCons (mCallK F_coded [.p 0, .d 0, .d 1, .d 2] dd_coded 1 0 (aCons (mOp gAdd (mV 4) (mC (.int 1))) aNil) aNil) (aCons (mCall F_sum_at (aCons (mV 3) (aCons (mOp gSub (mMeth "Draft" "begins" F_Draft_begins (mV 0) (aCons (mV 2) aNil)) (mOp gSub (mUn (gFld "Draft" "labels") (mV 0)) (mV 6))) aNil))) aNil))))))))
def F_Draft_branch_words : List D → FR := runF M_Draft_branch_words 4 4
theorem ok_Draft_branch_words (T : Txt K mg cls) : MtD Pr w K mg base 4 "Draft" "branch_words" (spF K cls F_Draft_branch_words) :=
  mtF1 N_Draft_branch_words ["self", "index", "choice", "p"] M_Draft_branch_words 4 4 3 rfl rfl T.m_Draft_branch_words sc_Draft_branch_words fun f cdv A outer s H G E hr =>
  (s_cons (s_asgT (e_sl (e_sub (u1 hr) (e_fld T.cf_Draft T.nf_Draft_draft_rows (e_v 0)) (e_v 1)) (pt_some e_int) pt_none) (g_tup (n := 3) (gs_cons (g_n (i := 5) sc_Draft_branch_words.nd) (gs_cons (g_n (i := 6) sc_Draft_branch_words.nd) (gs_cons (g_n (i := 7) sc_Draft_branch_words.nd) gs_nil)))))
  (s_cons (s_asg (i := 4) sc_Draft_branch_words.nd (e_sub (u1 hr) (e_dictC (ps := [(.inr "ask", (.int 3)), (.inr "go", (.int 5)), (.inr "call", (.int 14))]) T.n_dict T.k_CODES_drafts rfl) (e_v 5)))
  (s_cons (s_if (t_cmp (op_notInG (u65 hr)) d_notInG (e_v 1) (e_v 2)) (s_one (s_ret (e_lst (a_cons (e_dk (ks := []) (ok_coded T) hr px (a_cons (e_v 4) (a_cons e_int (a_cons e_int (a_cons (e_sub (u1 hr) (e_meth (ok_Draft_ways T) hr px (e_v 0) (a_cons (e_v 2) a_nil)) (e_v 1)) a_nil)))) k_nil dv_coded (bk_0)) a_nil)))) s_nil)
  (s_cons (s_if (t_val (e_meth (ok_Draft_leads_out T) hr px (e_v 0) (a_cons (e_v 1) a_nil))) (s_one (s_ret (e_lst (a_cons (e_dk (ks := []) (ok_coded T) hr px (a_cons (e_op op_addG d_addG (e_v 4) e_int) a_nil) k_nil dv_coded (bk_1)) (a_cons (e_tup (a_cons (e_v 7) (a_cons (e_tup (a_cons (e_tup (a_cons (e_tup (a_cons e_str (a_cons (e_v 6) a_nil))) (a_cons e_int a_nil))) a_nil)) a_nil))) a_nil))))) s_nil)
  (s_one (s_ret (e_lst (a_cons (e_dk (ks := []) (ok_coded T) hr px (a_cons (e_op op_addG d_addG (e_v 4) e_int) a_nil) k_nil dv_coded (bk_1)) (a_cons (e_df (ok_sum_at T) hr px (a_cons (e_v 3) (a_cons (e_sub (u1 hr) (e_meth (ok_Draft_begins T) hr px (e_v 0) (a_cons (e_v 2) a_nil)) (e_sub (u1 hr) (e_fld T.cf_Draft T.nf_Draft_labels (e_v 0)) (e_v 6))) a_nil))) a_nil)))))))))
/-! Draft.coded_words -/
abbrev s_Draft_coded_words : Stmt := (inS 41 34)
def M_Draft_coded_words_b1 : MS := (sRaise "TooLong" ["index"] (aCons (mV 4) aNil))
def M_Draft_coded_words_b2 : MS := (sIf (mOp gEq (mOp gSub (mV 8) (mC (.int 0))) (mC (.str "words"))) (sExt 7 (mFrz (mLc (mIter (mOp gSub (mV 8) (mC (.int 1)))) (gN 11) mYes (mCall F_put (aCons (mV 11) (aCons (mV 6) aNil))) [11]))) (sIf (mOp gEq (mOp gSub (mV 8) (mC (.int 0))) (mC (.str "even"))) (sExt 7 (mOp lRep (mAgs gLstD (aCons (mCall F_sum_of (aCons (mCallK F_coded [.p 0, .d 0, .d 1, .d 2] dd_coded 1 0 (aCons (mC (.int 9)) aNil) aNil) aNil)) aNil)) (mOp iSub (mOp gSub (mV 5) (mOp gAdd (mV 4) (mC (.int 1)))) (mOp gSub (mV 5) (mV 4))))) (sIf (mOp gEq (mOp gSub (mV 8) (mC (.int 0))) (mC (.str "branch"))) (sExt 7 (mFrz (mLc (mIter (mMeth "Draft" "branch_words" F_Draft_branch_words (mV 0) (aCons (mV 4) (aCons (mV 3) (aCons (mV 1) aNil))))) (gN 11) mYes (mCall F_sum_of (aCons (mV 11) aNil)) [11]))) sNil)))
abbrev N_Draft_coded_words : List Str := ["self", "p", "choice", "picked", "index", "begins", "worths", "found", "row", "name", "at", "one"]
theorem sc_Draft_coded_words : FnScope N_Draft_coded_words ["self", "p", "choice"] (defScope s_Draft_coded_words) := ⟨rfl, rfl, rfl, by decide +kernel, rfl, by decide +kernel, by decide +kernel⟩
def M_Draft_coded_words : MS := (sSeq (sIf (mNot (mCall F_is_name (aCons (mV 1) aNil))) (sRaise "NoName" ["name"] (aCons (mV 1) aNil)) sNil)
  (sSeq (sAsg 3 (mMeth "Draft" "checked" F_Draft_checked (mV 0) (aCons (mV 2) aNil)))
  (sSeq (sFor (mIter (mMeth "Draft" "too_long" F_Draft_too_long (mV 0) (aCons (mV 3) aNil))) (gN 4) M_Draft_coded_words_b1)
  (sSeq (sAsg 5 (mMeth "Draft" "begins" F_Draft_begins (mV 0) (aCons (mV 3) aNil)))
  (sSeq (sAsg 6 (mDcT (mItems (mUn (gFld "Draft" "labels") (mV 0))) (gTup2 2 (gsCons (gN 9) (gsCons (gN 10) gsNil))) mYes (mAgs gTupD (aCons (mC (.str "name")) (aCons (mV 9) aNil))) (mCall F_sum_at (aCons (mV 1) (aCons (mOp gSub (mV 5) (mV 10)) aNil))) [9, 10]))
  (sSeq (sAsgO 7 (mShort aNil))
  (sSeq (sFor (mIt enumOf (aCons (mUn (gFld "Draft" "draft_rows") (mV 0)) aNil)) (gTup2 2 (gsCons (gN 4) (gsCons (gN 8) gsNil))) M_Draft_coded_words_b2)
  (sRetOwn 7))))))))
def F_Draft_coded_words : List D → FR := runF M_Draft_coded_words 3 9
theorem ok_Draft_coded_words (T : Txt K mg cls) : MtD Pr w K mg base 7 "Draft" "coded_words" (spF K cls F_Draft_coded_words) :=
  mtF1 N_Draft_coded_words ["self", "p", "choice"] M_Draft_coded_words 3 9 6 rfl rfl T.m_Draft_coded_words sc_Draft_coded_words fun f cdv A outer s H G E hr =>
  (s_cons (s_if (t_not (t_val (e_df (ok_is_name T) hr px (a_cons (e_v 1) a_nil)))) (s_one (s_raise (takes_of rfl rfl rfl rfl) (ox_NoName T) hr (a_cons (e_v 1) a_nil))) s_nil)
  (s_cons (s_asg (i := 3) sc_Draft_coded_words.nd (e_meth (ok_Draft_checked T) hr px (e_v 0) (a_cons (e_v 2) a_nil)))
  (s_cons (s_for po (i_any (e_meth (ok_Draft_too_long T) hr px (e_v 0) (a_cons (e_v 3) a_nil))) (g_n (i := 4) sc_Draft_coded_words.nd) (s_one (s_raise (takes_of rfl rfl rfl rfl) (ox_TooLong T) hr (a_cons (e_v 4) a_nil))))
  (s_cons (s_asg (i := 5) sc_Draft_coded_words.nd (e_meth (ok_Draft_begins T) hr px (e_v 0) (a_cons (e_v 3) a_nil)))
  (s_cons (s_asg (i := 6) sc_Draft_coded_words.nd (e_dcT (own := [("name", 9), ("at", 10)]) sc_Draft_coded_words.nd (u1 hr) (i_items (e_fld T.cf_Draft T.nf_Draft_labels (e_v 0))) (blkOk_by (N := N_Draft_coded_words) (sc := defScope s_Draft_coded_words) (by decide +kernel)) (fun _ _ _ _ _ => (gk_tup (n := 2) (gks_cons (gk_n (i := 9) sc_Draft_coded_words.nd) (gks_cons (gk_n (i := 10) sc_Draft_coded_words.nd) gks_nil)))) (fun _ _ _ _ _ => c_yes) (fun _ _ _ _ _ => (e_tup (a_cons e_str (a_cons (e_v 9) a_nil)))) (fun _ _ _ _ _ => (e_df (ok_sum_at T) hr passL (a_cons (e_v 1) (a_cons (e_sub (u1 hr) (e_v 5) (e_v 10)) a_nil))))))
  (s_cons (s_asgO (i := 7) sc_Draft_coded_words.nd (o_lst a_nil))
  (s_cons (s_for po (i_enum T.n_enumerate (a_cons (e_fld T.cf_Draft T.nf_Draft_draft_rows (e_v 0)) a_nil)) (g_tup (n := 2) (gs_cons (g_n (i := 4) sc_Draft_coded_words.nd) (gs_cons (g_n (i := 8) sc_Draft_coded_words.nd) gs_nil))) (s_one (s_if (t_cmp (op_eqD hr.units) d_eq (e_sub (u1 hr) (e_v 8) e_int) e_str) (s_one (s_ext (i := 7) (e_frz (o_lc (own := [("one", 11)]) sc_Draft_coded_words.nd (i_any (e_sub (u1 hr) (e_v 8) e_int)) (blkOk_by (N := N_Draft_coded_words) (sc := defScope s_Draft_coded_words) (by decide +kernel)) (fun _ _ _ _ _ => (gk_n (i := 11) sc_Draft_coded_words.nd)) (fun _ _ _ _ _ => c_yes) (fun _ _ _ _ _ => (e_df ((ok_put T).alias T.al_put_sums) hr passL (a_cons (e_v 11) (a_cons (e_v 6) a_nil)))))))) (s_one (s_if (t_cmp (op_eqD hr.units) d_eq (e_sub (u1 hr) (e_v 8) e_int) e_str) (s_one (s_ext (i := 7) (e_op op_rep d_rep (e_lst (a_cons (e_df (ok_sum_of T) hr px (a_cons (e_dk (ks := []) (ok_coded T) hr px (a_cons e_int a_nil) k_nil dv_coded (bk_1)) a_nil)) a_nil)) (e_op op_sub d_sub (e_sub (u1 hr) (e_v 5) (e_op op_addG d_addG (e_v 4) e_int)) (e_sub (u1 hr) (e_v 5) (e_v 4)))))) (s_one (s_if (t_cmp (op_eqD hr.units) d_eq (e_sub (u1 hr) (e_v 8) e_int) e_str) (s_one (s_ext (i := 7) (e_frz (o_lc (own := [("one", 11)]) sc_Draft_coded_words.nd (i_any (e_meth (ok_Draft_branch_words T) hr px (e_v 0) (a_cons (e_v 4) (a_cons (e_v 3) (a_cons (e_v 1) a_nil))))) (blkOk_by (N := N_Draft_coded_words) (sc := defScope s_Draft_coded_words) (by decide +kernel)) (fun _ _ _ _ _ => (gk_n (i := 11) sc_Draft_coded_words.nd)) (fun _ _ _ _ _ => c_yes) (fun _ _ _ _ _ => (e_df (ok_sum_of T) hr passL (a_cons (e_v 11) a_nil))))))) s_nil)))))))
  (s_one (s_retOwn 7)))))))))
/-! law -/
abbrev s_law : Stmt := (topS 61)
def M_law_s1 : MS := (sAsg 10 (mAgs gTupD (aCons (mC (.str "told")) (aCons (mCall F_law_coded (aCons (mV 2) (aCons (mV 5) (aCons (mV 3) aNil)))) aNil))))
def M_law_s2 : MS := (sIf (mOp gNe (mCall F_law_long (aCons (mV 2) (aCons (mV 5) aNil))) (mAgs gLstD aNil)) (sAsg 10 (mAgs gTupD (aCons (mC (.str "long")) (aCons (mOp gSub (mCall F_law_long (aCons (mV 2) (aCons (mV 5) aNil))) (mC (.int 0))) aNil)))) sNil)
def M_law_s3 : MS := (sIf (mNot (mCall (F_law_same 8) (aCons (mMet excs "told" cl_law_met (mMeth "Draft" "coded_words" F_Draft_coded_words (mV 7) (aCons (mV 3) (aCons (mV 5) aNil)))) (aCons (mV 10) aNil)))) (sRet (mC (.bl false))) sNil)
def M_law_b4 : MS := (sSeq M_law_s1
  (sSeq M_law_s2
  M_law_s3))
def M_law_s5 : MS := (sAsg 1 (mCall F_law_row (aCons (mCall F_law_cell (aCons (mV 0) (aCons (mC (.int 1)) aNil))) (aCons (mOp gAdd (mOp gAdd (mOp lRep (mAgs gLstD (aCons (mC (.int 8)) aNil)) (mC (.int 16))) (mOp lRep (mAgs gLstD (aCons (mC (.int 2)) aNil)) (mC (.int 12)))) (mAgs gLstD (aCons (mC (.int 6)) (aCons (mC (.int 6)) (aCons (mC (.int 3)) aNil))))) aNil))))
def M_law_s6 : MS := (sAsg 2 (mCall F_law_with_sums (aCons (mCall F_law_draft (aCons (mCall F_law_cell (aCons (mV 0) (aCons (mC (.int 0)) aNil))) (aCons (mC (.int 9)) (aCons (mC (.bl true)) aNil)))) (aCons (mV 1) aNil))))
def M_law_s7 : MS := (sAsgT (gTup2 3 (gsCons (gN 7) (gsCons (gN 8) (gsCons (gN 9) gsNil)))) (mAgs gTupD (aCons (mMake "Draft" F_Draft_init (aCons (mV 2) aNil)) (aCons (mCall F_law_outs (aCons (mV 2) aNil)) (aCons (mCall F_law_branches (aCons (mV 2) aNil)) aNil)))))
def M_law_s8 : MS := (sAsg 3 (mOp gSub (mAgs gLstD (aCons (mC (.str "m")) (aCons (mC (.str "code")) (aCons (mC (.str "la")) aNil)))) (mOp gSub (mV 1) (mC (.int 30)))))
def M_law_s9 : MS := (sAsg 4 (mFrz (mLc (mIt zipOf (aCons (mV 9) (aCons (mSl (mV 1) (mInt (mC (.int 16))) (mC .non)) aNil))) (gTup2 2 (gsCons (gN 13) (gsCons (gN 14) gsNil))) (mOr (mOp gEq (mV 14) (mC (.int 1))) (mOp gInG (mV 13) (mV 8))) (mV 13) [13, 14])))
def M_law_s10 : MS := (sFor (mIter (mAgs gTupD (aCons (mV 4) (aCons (mV 8) (aCons (mV 9) (aCons (mCall F_law_grown (aCons (mV 2) aNil)) aNil)))))) (gN 5) M_law_b4)
def M_law_s11 : MS := (sAppT (mMethO "Draft" "coded_words" F_Draft_coded_words (mV 7) (aCons (mV 3) (aCons (mV 9) aNil))) (mC (.str "more")))
def M_law_s12 : MS := (sIf (mNot (mCall (F_law_same 8) (aCons (mMeth "Draft" "coded_words" F_Draft_coded_words (mV 7) (aCons (mV 3) (aCons (mAgs (b1 gTupOf) (aCons (mV 9) aNil)) aNil))) (aCons (mCall F_law_coded (aCons (mV 2) (aCons (mV 9) (aCons (mV 3) aNil)))) aNil)))) (sRet (mC (.bl false))) sNil)
def M_law_s13 : MS := (sAsgT (gTup2 2 (gsCons (gN 11) (gsCons (gN 12) gsNil))) (mAgs gTupD (aCons (mOp gSub (mAgs gLstD (aCons (mC .non) (aCons (mC (.str "")) (aCons (mC (.str "A")) (aCons (mC (.int 5)) (aCons (mAgs gLstD (aCons (mC (.str "m")) aNil)) (aCons (mC (.str "abcdefghi")) aNil))))))) (mOp gSub (mV 1) (mC (.int 28)))) (aCons (mOp gSub (mAgs gLstD (aCons (mC .non) (aCons (mC (.int 5)) (aCons (mAgs gLstD (aCons (mAgs (b1 gLen) (aCons (mV 2) aNil)) aNil)) (aCons (mC (.str "ab")) (aCons (mC (.dct true [])) (aCons (mAgs gLstD (aCons (mC .non) aNil)) aNil))))))) (mOp gSub (mV 1) (mC (.int 29)))) aNil))))
def M_law_s14 : MS := (sAsgO 6 (mShort (aCons (mMet excs "told" cl_law_met (mMeth "Draft" "coded_words" F_Draft_coded_words (mV 7) (aCons (mV 11) (aCons (mV 12) aNil)))) aNil)))
def M_law_s15 : MS := (sApp 6 (mMet excs "told" cl_law_met (mMeth "Draft" "coded_words" F_Draft_coded_words (mV 7) (aCons (mV 3) (aCons (mV 12) aNil)))))
def M_law_s16 : MS := (sFrz 6 (sRet (mCall (F_law_same 8) (aCons (mV 6) (aCons (mAgs gLstD (aCons (mAgs gTupD (aCons (mC (.str "name")) (aCons (mV 11) aNil))) (aCons (mAgs gTupD (aCons (mC (.str "choice")) (aCons (mV 12) aNil))) aNil))) aNil)))))
abbrev N_law : List Str := ["_law_script", "_law_draws", "_law_rows", "_law_p", "_law_some", "_law_far", "_law_found", "_law_made", "_law_outs_here", "_law_branches_here", "_law_due", "_law_odd", "_law_bad", "_law_k", "_law_draw"]
theorem sc_law : FnScope N_law ["_law_script"] (defScope s_law) := ⟨rfl, rfl, rfl, by decide +kernel, rfl, by decide +kernel, by decide +kernel⟩
def M_law : MS := (sSeq M_law_s5
  (sSeq M_law_s6
  (sSeq M_law_s7
  (sSeq M_law_s8
  (sSeq M_law_s9
  (sSeq M_law_s10
  (sSeq M_law_s11
  (sSeq M_law_s12
  (sSeq M_law_s13
  (sSeq M_law_s14
  (sSeq M_law_s15
  M_law_s16)))))))))))
def F_law : List D → FR := runF M_law 1 14
theorem body_law (T : Txt K mg cls) (B : TxtB K base mg tb) : ∀ (f : Addr) (A : Around) (outer : List Env) (s : Shared) (H G : Hp) (E : XK), Room 9 (A.deeper (envOfC "law" (defScope s_law) s.heap.objs.size f (.ref (tb "law").1))) →
    PSs (cxOf (L2.CX Pr w) Pr w K mg base N_law "law" (defScope s_law) f (.ref (tb "law").1) A outer s H E) (defBody s_law) (tS (fcT K cls (tabL tb) G H) E M_law) := fun f A outer s H G E hr =>
  (s_cons (s_asg (i := 1) sc_law.nd (e_df (ok_law_row T) hr px (a_cons (e_df (ok_law_cell T) hr px (a_cons (e_v 0) (a_cons e_int a_nil))) (a_cons (e_op op_addG d_addG (e_op op_addG d_addG (e_op op_rep d_rep (e_lst (a_cons e_int a_nil)) e_int) (e_op op_rep d_rep (e_lst (a_cons e_int a_nil)) e_int)) (e_lst (a_cons e_int (a_cons e_int (a_cons e_int a_nil))))) a_nil))))
  (s_cons (s_asg (i := 2) sc_law.nd (e_df (ok_law_with_sums T) hr px (a_cons (e_df (ok_law_draft T) hr px (a_cons (e_df (ok_law_cell T) hr px (a_cons (e_v 0) (a_cons e_int a_nil))) (a_cons e_int (a_cons e_bl a_nil)))) (a_cons (e_v 1) a_nil))))
  (s_cons (s_asgT (e_tup (a_cons (e_make (ok_Draft_init T) hr px (a_cons (e_v 2) a_nil)) (a_cons (e_df (ok_law_outs T) hr px (a_cons (e_v 2) a_nil)) (a_cons (e_df (ok_law_branches T) hr px (a_cons (e_v 2) a_nil)) a_nil)))) (g_tup (n := 3) (gs_cons (g_n (i := 7) sc_law.nd) (gs_cons (g_n (i := 8) sc_law.nd) (gs_cons (g_n (i := 9) sc_law.nd) gs_nil)))))
  (s_cons (s_asg (i := 3) sc_law.nd (e_sub (u1 hr) (e_lst (a_cons e_str (a_cons e_str (a_cons e_str a_nil)))) (e_sub (u1 hr) (e_v 1) e_int)))
  (s_cons (s_lcF (i := 4) (own := [("_law_k", 13), ("_law_draw", 14)]) sc_law.nd (i_zip T.n_zip (a_cons (e_v 9) (a_cons (e_sl (e_v 1) (pt_some e_int) pt_none) a_nil))) (blkOk_by (N := N_law) (sc := defScope s_law) (by decide +kernel)) (fun _ _ _ _ _ => (gk_tup (n := 2) (gks_cons (gk_n (i := 13) sc_law.nd) (gks_cons (gk_n (i := 14) sc_law.nd) gks_nil)))) (fun _ _ _ _ _ => (c_one (PW.pt (t_or (t_cmp (op_eqD hr.units) d_eq (e_v 14) e_int) (t_or1 (t_cmp (op_inG (u65 hr)) d_inG (e_v 13) (e_v 8))))))) (fun _ _ _ _ _ => (e_v 13)))
  (s_cons (s_for po (i_any (e_tup (a_cons (e_v 4) (a_cons (e_v 8) (a_cons (e_v 9) (a_cons (e_df (ok_law_grown T) hr px (a_cons (e_v 2) a_nil)) a_nil)))))) (g_n (i := 5) sc_law.nd) (s_cons (s_asg (i := 10) sc_law.nd (e_tup (a_cons e_str (a_cons (e_df (ok_law_coded T) hr px (a_cons (e_v 2) (a_cons (e_v 5) (a_cons (e_v 3) a_nil)))) a_nil))))
  (s_cons (s_if (t_cmp (op_neD hr.units) d_ne (e_df (ok_law_long T) hr px (a_cons (e_v 2) (a_cons (e_v 5) a_nil))) (e_lst a_nil)) (s_one (s_asg (i := 10) sc_law.nd (e_tup (a_cons e_str (a_cons (e_sub (u1 hr) (e_df (ok_law_long T) hr px (a_cons (e_v 2) (a_cons (e_v 5) a_nil))) e_int) a_nil))))) s_nil)
  (s_one (s_if (t_not (t_val (e_df (ok_law_same T 8) hr px (a_cons (e_met (k := 7) (ok_law_met T) B.tb_law rfl (mem_law tb) (fun p hp he => B.uq _ _ p hp he (mem_law tb)) hr (fun G0 H0 A outer s H E f c1 hr2 => (e_meth (ok_Draft_coded_words T) hr2 pxL1 (e_v 7) (a_cons (e_v 3) (a_cons (e_v 5) a_nil)))) (show LamX.LamS (defScope s_law) _ from LamX.lamS_by (by decide +kernel))) (a_cons (e_v 10) a_nil))))) (s_one (s_ret e_bl)) s_nil)))))
  (s_cons (s_appT (o_meth (ok_Draft_coded_words T) hr px (e_v 7) (a_cons (e_v 3) (a_cons (e_v 9) a_nil))) e_str)
  (s_cons (s_if (t_not (t_val (e_df (ok_law_same T 8) hr px (a_cons (e_meth (ok_Draft_coded_words T) hr px (e_v 7) (a_cons (e_v 3) (a_cons (e_ty call_tuple_of d_tupOf (a_cons (e_v 9) a_nil) T.n_tuple) a_nil))) (a_cons (e_df (ok_law_coded T) hr px (a_cons (e_v 2) (a_cons (e_v 9) (a_cons (e_v 3) a_nil)))) a_nil))))) (s_one (s_ret e_bl)) s_nil)
  (s_cons (s_asgT (e_tup (a_cons (e_sub (u1 hr) (e_lst (a_cons e_non (a_cons e_str (a_cons e_str (a_cons e_int (a_cons (e_lst (a_cons e_str a_nil)) (a_cons e_str a_nil))))))) (e_sub (u1 hr) (e_v 1) e_int)) (a_cons (e_sub (u1 hr) (e_lst (a_cons e_non (a_cons e_int (a_cons (e_lst (a_cons (e_b call_len d_len (a_cons (e_v 2) a_nil) T.n_len) a_nil)) (a_cons e_str (a_cons e_dct0 (a_cons (e_lst (a_cons e_non a_nil)) a_nil))))))) (e_sub (u1 hr) (e_v 1) e_int)) a_nil))) (g_tup (n := 2) (gs_cons (g_n (i := 11) sc_law.nd) (gs_cons (g_n (i := 12) sc_law.nd) gs_nil))))
  (s_cons (s_asgO (i := 6) sc_law.nd (o_lst (a_cons (e_met (k := 7) (ok_law_met T) B.tb_law rfl (mem_law tb) (fun p hp he => B.uq _ _ p hp he (mem_law tb)) hr (fun G0 H0 A outer s H E f c1 hr2 => (e_meth (ok_Draft_coded_words T) hr2 pxL1 (e_v 7) (a_cons (e_v 11) (a_cons (e_v 12) a_nil)))) (show LamX.LamS (defScope s_law) _ from LamX.lamS_by (by decide +kernel))) a_nil)))
  (s_cons (s_app (i := 6) (e_met (k := 7) (ok_law_met T) B.tb_law rfl (mem_law tb) (fun p hp he => B.uq _ _ p hp he (mem_law tb)) hr (fun G0 H0 A outer s H E f c1 hr2 => (e_meth (ok_Draft_coded_words T) hr2 pxL1 (e_v 7) (a_cons (e_v 3) (a_cons (e_v 12) a_nil)))) (show LamX.LamS (defScope s_law) _ from LamX.lamS_by (by decide +kernel))))
  (s_one (s_frz 6 (s_ret (e_df (ok_law_same T 8) hr px (a_cons (e_v 6) (a_cons (e_lst (a_cons (e_tup (a_cons e_str (a_cons (e_v 11) a_nil))) (a_cons (e_tup (a_cons e_str (a_cons (e_v 12) a_nil))) a_nil))) a_nil)))))))))))))))))
end
def clsOf (C_BadSum : Addr) (C_BadDraft : Addr) (C_NoName : Addr) (C_BadChoice : Addr) (C_TooLong : Addr) (C_BadField : Addr) : Str → Addr := fun x => if x = "BadSum" then C_BadSum else if x = "BadDraft" then C_BadDraft else if x = "NoName" then C_NoName else if x = "BadChoice" then C_BadChoice else if x = "TooLong" then C_TooLong else if x = "BadField" then C_BadField else 0
theorem txt_mk {K : PySem.W.Frag} {h : Heap} {mg : Str → Option Value} {Q0 : Addr} {f0 : Addr} {oc0 : Value} {od0 an0 : Option Addr} {sl0 : Array (Option Value)} {kV0 dc0 pm0 ct0 : Value} {cd0 : Value} {f1 : Addr} {oc1 : Value} {od1 an1 : Option Addr} {sl1 : Array (Option Value)} {kV1 dc1 pm1 ct1 : Value} {cd1 : Value} {f2 : Addr} {oc2 : Value} {od2 an2 : Option Addr} {sl2 : Array (Option Value)} {kV2 dc2 pm2 ct2 : Value} {cd2 : Value} {f3 : Addr} {oc3 : Value} {od3 an3 : Option Addr} {sl3 : Array (Option Value)} {kV3 dc3 pm3 ct3 : Value} {cd3 : Value} {f4 : Addr} {oc4 : Value} {od4 an4 : Option Addr} {sl4 : Array (Option Value)} {kV4 dc4 pm4 ct4 : Value} {cd4 : Value} {f5 : Addr} {oc5 : Value} {od5 an5 : Option Addr} {sl5 : Array (Option Value)} {kV5 dc5 pm5 ct5 : Value} {cd5 : Value} {f6 : Addr} {oc6 : Value} {od6 an6 : Option Addr} {sl6 : Array (Option Value)} {kV6 dc6 pm6 ct6 : Value} {cd6 : Value} {f7 : Addr} {oc7 : Value} {od7 an7 : Option Addr} {sl7 : Array (Option Value)} {kV7 dc7 pm7 ct7 : Value} {cd7 : Value} {f8 : Addr} {oc8 : Value} {od8 an8 : Option Addr} {sl8 : Array (Option Value)} {kV8 dc8 pm8 ct8 : Value} {cd8 : Value} {f9 : Addr} {oc9 : Value} {od9 an9 : Option Addr} {sl9 : Array (Option Value)} {kV9 dc9 pm9 ct9 : Value} {cd9 : Value} {f10 : Addr} {oc10 : Value} {od10 an10 : Option Addr} {sl10 : Array (Option Value)} {kV10 dc10 pm10 ct10 : Value} {cd10 : Value} {f11 : Addr} {oc11 : Value} {od11 an11 : Option Addr} {sl11 : Array (Option Value)} {kV11 dc11 pm11 ct11 : Value} {cd11 : Value} {f12 : Addr} {oc12 : Value} {od12 an12 : Option Addr} {sl12 : Array (Option Value)} {kV12 dc12 pm12 ct12 : Value} {cd12 : Value} {f13 : Addr} {oc13 : Value} {od13 an13 : Option Addr} {sl13 : Array (Option Value)} {kV13 dc13 pm13 ct13 : Value} {cd13 : Value} {f14 : Addr} {oc14 : Value} {od14 an14 : Option Addr} {sl14 : Array (Option Value)} {kV14 dc14 pm14 ct14 : Value} {cd14 : Value} {f15 : Addr} {oc15 : Value} {od15 an15 : Option Addr} {sl15 : Array (Option Value)} {kV15 dc15 pm15 ct15 : Value} {cd15 : Value} {f16 : Addr} {oc16 : Value} {od16 an16 : Option Addr} {sl16 : Array (Option Value)} {kV16 dc16 pm16 ct16 : Value} {cd16 : Value} {f17 : Addr} {oc17 : Value} {od17 an17 : Option Addr} {sl17 : Array (Option Value)} {kV17 dc17 pm17 ct17 : Value} {cd17 : Value} {f18 : Addr} {oc18 : Value} {od18 an18 : Option Addr} {sl18 : Array (Option Value)} {kV18 dc18 pm18 ct18 : Value} {cd18 : Value} {f19 : Addr} {oc19 : Value} {od19 an19 : Option Addr} {sl19 : Array (Option Value)} {kV19 dc19 pm19 ct19 : Value} {cd19 : Value} {f20 : Addr} {oc20 : Value} {od20 an20 : Option Addr} {sl20 : Array (Option Value)} {kV20 dc20 pm20 ct20 : Value} {cd20 : Value} {f21 : Addr} {oc21 : Value} {od21 an21 : Option Addr} {sl21 : Array (Option Value)} {kV21 dc21 pm21 ct21 : Value} {cd21 : Value} {f22 : Addr} {oc22 : Value} {od22 an22 : Option Addr} {sl22 : Array (Option Value)} {kV22 dc22 pm22 ct22 : Value} {cd22 : Value} {f23 : Addr} {oc23 : Value} {od23 an23 : Option Addr} {sl23 : Array (Option Value)} {kV23 dc23 pm23 ct23 : Value} {cd23 : Value} {f24 : Addr} {oc24 : Value} {od24 an24 : Option Addr} {sl24 : Array (Option Value)} {kV24 dc24 pm24 ct24 : Value} {cd24 : Value} {f25 : Addr} {oc25 : Value} {od25 an25 : Option Addr} {sl25 : Array (Option Value)} {kV25 dc25 pm25 ct25 : Value} {cd25 : Value} {f26 : Addr} {oc26 : Value} {od26 an26 : Option Addr} {sl26 : Array (Option Value)} {kV26 dc26 pm26 ct26 : Value} {cd26 : Value} {f27 : Addr} {oc27 : Value} {od27 an27 : Option Addr} {sl27 : Array (Option Value)} {kV27 dc27 pm27 ct27 : Value} {cd27 : Value} {f28 : Addr} {oc28 : Value} {od28 an28 : Option Addr} {sl28 : Array (Option Value)} {kV28 dc28 pm28 ct28 : Value} {cd28 : Value} {f29 : Addr} {oc29 : Value} {od29 an29 : Option Addr} {sl29 : Array (Option Value)} {kV29 dc29 pm29 ct29 : Value} {cd29 : Value} {f30 : Addr} {oc30 : Value} {od30 an30 : Option Addr} {sl30 : Array (Option Value)} {kV30 dc30 pm30 ct30 : Value} {cd30 : Value} {f31 : Addr} {oc31 : Value} {od31 an31 : Option Addr} {sl31 : Array (Option Value)} {kV31 dc31 pm31 ct31 : Value} {cd31 : Value} {f32 : Addr} {oc32 : Value} {od32 an32 : Option Addr} {sl32 : Array (Option Value)} {kV32 dc32 pm32 ct32 : Value} {cd32 : Value} {f33 : Addr} {oc33 : Value} {od33 an33 : Option Addr} {sl33 : Array (Option Value)} {kV33 dc33 pm33 ct33 : Value} {cd33 : Value} {f34 : Addr} {oc34 : Value} {od34 an34 : Option Addr} {sl34 : Array (Option Value)} {kV34 dc34 pm34 ct34 : Value} {cd34 : Value} {f35 : Addr} {oc35 : Value} {od35 an35 : Option Addr} {sl35 : Array (Option Value)} {kV35 dc35 pm35 ct35 : Value} {cd35 : Value} {f36 : Addr} {oc36 : Value} {od36 an36 : Option Addr} {sl36 : Array (Option Value)} {kV36 dc36 pm36 ct36 : Value} {cd36 : Value} {f37 : Addr} {oc37 : Value} {od37 an37 : Option Addr} {sl37 : Array (Option Value)} {kV37 dc37 pm37 ct37 : Value} {cd37 : Value} {f38 : Addr} {oc38 : Value} {od38 an38 : Option Addr} {sl38 : Array (Option Value)} {kV38 dc38 pm38 ct38 : Value} {cd38 : Value} {f39 : Addr} {oc39 : Value} {od39 an39 : Option Addr} {sl39 : Array (Option Value)} {kV39 dc39 pm39 ct39 : Value} {cd39 : Value} {f40 : Addr} {oc40 : Value} {od40 an40 : Option Addr} {sl40 : Array (Option Value)} {kV40 dc40 pm40 ct40 : Value} {cd40 : Value} {f41 : Addr} {oc41 : Value} {od41 an41 : Option Addr} {sl41 : Array (Option Value)} {kV41 dc41 pm41 ct41 : Value} {cd41 : Value} {f42 : Addr} {oc42 : Value} {od42 an42 : Option Addr} {sl42 : Array (Option Value)} {kV42 dc42 pm42 ct42 : Value} {cd42 : Value} {T42 : Addr} {oT42 : Obj} {t42_0 t42_1 t42_2 : Tok} {nT42 : Nat} {f43 : Addr} {oc43 : Value} {od43 an43 : Option Addr} {sl43 : Array (Option Value)} {kV43 dc43 pm43 ct43 : Value} {cd43 : Value} {f44 : Addr} {oc44 : Value} {od44 an44 : Option Addr} {sl44 : Array (Option Value)} {kV44 dc44 pm44 ct44 : Value} {cd44 : Value} {f45 : Addr} {oc45 : Value} {od45 an45 : Option Addr} {sl45 : Array (Option Value)} {kV45 dc45 pm45 ct45 : Value} {c45 : Addr} {q_KINDS : Addr} {o_KINDS : Obj} {n_KINDS : Nat} {t_KINDS_0 t_KINDS_1 t_KINDS_2 : Tok} {t_LONGEST : Tok} {t_LETTERS : Tok} {t_WIDEST : Tok} {q_CODES_drafts : Addr} {o_CODES_drafts : Obj} {n_CODES_drafts : Nat} {r_CODES_drafts_0 r_CODES_drafts_1 r_CODES_drafts_2 : Addr} {o_CODES_drafts_0 : Obj} {n_CODES_drafts_0 : Nat} {t_CODES_drafts_0_0 t_CODES_drafts_0_1 : Tok} {o_CODES_drafts_1 : Obj} {n_CODES_drafts_1 : Nat} {t_CODES_drafts_1_0 t_CODES_drafts_1_1 : Tok} {o_CODES_drafts_2 : Obj} {n_CODES_drafts_2 : Nat} {t_CODES_drafts_2_0 t_CODES_drafts_2_1 : Tok} {t_LOW : Tok} {t_HIGH : Tok} {t_CODES_words : Tok} {t_FIELDS : Tok} {t_STEP : Tok} {C_BadSum I_BadSum : Addr} {ocBadSum : Value} {odBadSum anBadSum : Option Addr} {slBadSum : Array (Option Value)} {kVBadSum dcBadSum pmBadSum cdBadSum ctBadSum : Value} {nm_BadSum qn_BadSum : Str} {N_BadSum : Addr} {bs_BadSum bm_BadSum : List Value} {sn_BadSum : List Str} {sub_BadSum : List Value} {ab_BadSum : Bool} {col_BadSum : Option Bool} {dd_BadSum : Option Addr} {k0_BadSum k1_BadSum k2_BadSum k3_BadSum k5_BadSum : Option Value} {C_BadDraft I_BadDraft : Addr} {ocBadDraft : Value} {odBadDraft anBadDraft : Option Addr} {slBadDraft : Array (Option Value)} {kVBadDraft dcBadDraft pmBadDraft cdBadDraft ctBadDraft : Value} {nm_BadDraft qn_BadDraft : Str} {N_BadDraft : Addr} {bs_BadDraft bm_BadDraft : List Value} {sn_BadDraft : List Str} {sub_BadDraft : List Value} {ab_BadDraft : Bool} {col_BadDraft : Option Bool} {dd_BadDraft : Option Addr} {k0_BadDraft k1_BadDraft k2_BadDraft k3_BadDraft k5_BadDraft : Option Value} {C_NoName I_NoName : Addr} {ocNoName : Value} {odNoName anNoName : Option Addr} {slNoName : Array (Option Value)} {kVNoName dcNoName pmNoName cdNoName ctNoName : Value} {nm_NoName qn_NoName : Str} {N_NoName : Addr} {bs_NoName bm_NoName : List Value} {sn_NoName : List Str} {sub_NoName : List Value} {ab_NoName : Bool} {col_NoName : Option Bool} {dd_NoName : Option Addr} {k0_NoName k1_NoName k2_NoName k3_NoName k5_NoName : Option Value} {C_BadChoice I_BadChoice : Addr} {ocBadChoice : Value} {odBadChoice anBadChoice : Option Addr} {slBadChoice : Array (Option Value)} {kVBadChoice dcBadChoice pmBadChoice cdBadChoice ctBadChoice : Value} {nm_BadChoice qn_BadChoice : Str} {N_BadChoice : Addr} {bs_BadChoice bm_BadChoice : List Value} {sn_BadChoice : List Str} {sub_BadChoice : List Value} {ab_BadChoice : Bool} {col_BadChoice : Option Bool} {dd_BadChoice : Option Addr} {k0_BadChoice k1_BadChoice k2_BadChoice k3_BadChoice k5_BadChoice : Option Value} {C_TooLong I_TooLong : Addr} {ocTooLong : Value} {odTooLong anTooLong : Option Addr} {slTooLong : Array (Option Value)} {kVTooLong dcTooLong pmTooLong cdTooLong ctTooLong : Value} {nm_TooLong qn_TooLong : Str} {N_TooLong : Addr} {bs_TooLong bm_TooLong : List Value} {sn_TooLong : List Str} {sub_TooLong : List Value} {ab_TooLong : Bool} {col_TooLong : Option Bool} {dd_TooLong : Option Addr} {k0_TooLong k1_TooLong k2_TooLong k3_TooLong k5_TooLong : Option Value} {C_BadField I_BadField : Addr} {ocBadField : Value} {odBadField anBadField : Option Addr} {slBadField : Array (Option Value)} {kVBadField dcBadField pmBadField cdBadField ctBadField : Value} {nm_BadField qn_BadField : Str} {N_BadField : Addr} {bs_BadField bm_BadField : List Value} {sn_BadField : List Str} {sub_BadField : List Value} {ab_BadField : Bool} {col_BadField : Option Bool} {dd_BadField : Option Addr} {k0_BadField k1_BadField k2_BadField k3_BadField k5_BadField : Option Value} (X : K.In h) (G : h.Ns mainGlobals mg)
    (ka_Draft : PySem.W.nsIn K mainGlobals "Draft" = some (some (.ref Q0)))
    (kg_Draft : PySem.W.plainGet K Q0 Str.empty = true)
    (kd_Draft : PySem.W.hasDictIn K Q0 = true)
    (ko_Draft : PySem.W.plainOver K Q0 = true)
    (ks_Draft : PySem.W.findIn K (.ref Q0) "__setattr__" = some (some (.builtin "object.__setattr__")))
    (km_Draft : PySem.W.makesIn K Q0 = true)
    (kk_Draft : PySem.W.keepIn K (.ref Q0) = true)
    (kn_Draft_draft_rows : PySem.W.findIn K (.ref Q0) "draft_rows" = some none)
    (kn_Draft_labels : PySem.W.findIn K (.ref Q0) "labels" = some none)
    (a0 : PySem.W.nsIn K mainGlobals "_law_row" = some (some (.ref f0)))
    (l0 : K.lookup f0 = some ⟨oc0, od0, .func (PySem.W.fnOf "_law_row" "_law_row" (defArgs (topS 44)) (defBody (topS 44)) (defScope (topS 44)) .none kV0 dc0 pm0 an0 cd0 ct0), sl0⟩)
    (c0_ : PySem.W.codeIn K cd0 "_law_row" = true)
    (k0 : PySem.W.keepIn K (.ref f0) = true)
    (a1 : PySem.W.nsIn K mainGlobals "_law_some_sum" = some (some (.ref f1)))
    (l1 : K.lookup f1 = some ⟨oc1, od1, .func (PySem.W.fnOf "_law_some_sum" "_law_some_sum" (defArgs (topS 56)) (defBody (topS 56)) (defScope (topS 56)) .none kV1 dc1 pm1 an1 cd1 ct1), sl1⟩)
    (c1_ : PySem.W.codeIn K cd1 "_law_some_sum" = true)
    (k1 : PySem.W.keepIn K (.ref f1) = true)
    (a2 : PySem.W.nsIn K mainGlobals "_law_with_sums" = some (some (.ref f2)))
    (l2 : K.lookup f2 = some ⟨oc2, od2, .func (PySem.W.fnOf "_law_with_sums" "_law_with_sums" (defArgs (topS 57)) (defBody (topS 57)) (defScope (topS 57)) .none kV2 dc2 pm2 an2 cd2 ct2), sl2⟩)
    (c2_ : PySem.W.codeIn K cd2 "_law_with_sums" = true)
    (k2 : PySem.W.keepIn K (.ref f2) = true)
    (a3 : PySem.W.nsIn K mainGlobals "_law_same" = some (some (.ref f3)))
    (l3 : K.lookup f3 = some ⟨oc3, od3, .func (PySem.W.fnOf "_law_same" "_law_same" (defArgs (topS 46)) (defBody (topS 46)) (defScope (topS 46)) .none kV3 dc3 pm3 an3 cd3 ct3), sl3⟩)
    (c3_ : PySem.W.codeIn K cd3 "_law_same" = true)
    (k3 : PySem.W.keepIn K (.ref f3) = true)
    (a4 : PySem.W.nsIn K mainGlobals "_law_cell" = some (some (.ref f4)))
    (l4 : K.lookup f4 = some ⟨oc4, od4, .func (PySem.W.fnOf "_law_cell" "_law_cell" (defArgs (topS 45)) (defBody (topS 45)) (defScope (topS 45)) .none kV4 dc4 pm4 an4 cd4 ct4), sl4⟩)
    (c4_ : PySem.W.codeIn K cd4 "_law_cell" = true)
    (k4 : PySem.W.keepIn K (.ref f4) = true)
    (a5 : PySem.W.nsIn K mainGlobals "_law_draft" = some (some (.ref f5)))
    (l5 : K.lookup f5 = some ⟨oc5, od5, .func (PySem.W.fnOf "_law_draft" "_law_draft" (defArgs (topS 47)) (defBody (topS 47)) (defScope (topS 47)) .none kV5 dc5 pm5 an5 cd5 ct5), sl5⟩)
    (c5_ : PySem.W.codeIn K cd5 "_law_draft" = true)
    (k5 : PySem.W.keepIn K (.ref f5) = true)
    (a6 : PySem.W.nsIn K mainGlobals "is_list" = some (some (.ref f6)))
    (l6 : K.lookup f6 = some ⟨oc6, od6, .func (PySem.W.fnOf "is_list" "is_list" (defArgs (topS 5)) (defBody (topS 5)) (defScope (topS 5)) .none kV6 dc6 pm6 an6 cd6 ct6), sl6⟩)
    (c6_ : PySem.W.codeIn K cd6 "is_list" = true)
    (k6 : PySem.W.keepIn K (.ref f6) = true)
    (a7 : PySem.W.nsIn K mainGlobals "is_integer" = some (some (.ref f7)))
    (l7 : K.lookup f7 = some ⟨oc7, od7, .func (PySem.W.fnOf "is_integer" "is_integer" (defArgs (topS 4)) (defBody (topS 4)) (defScope (topS 4)) .none kV7 dc7 pm7 an7 cd7 ct7), sl7⟩)
    (c7_ : PySem.W.codeIn K cd7 "is_integer" = true)
    (k7 : PySem.W.keepIn K (.ref f7) = true)
    (a8 : PySem.W.nsIn K mainGlobals "order_of" = some (some (.ref f8)))
    (l8 : K.lookup f8 = some ⟨oc8, od8, .func (PySem.W.fnOf "order_of" "order_of" (defArgs (topS 19)) (defBody (topS 19)) (defScope (topS 19)) .none kV8 dc8 pm8 an8 cd8 ct8), sl8⟩)
    (c8_ : PySem.W.codeIn K cd8 "order_of" = true)
    (k8 : PySem.W.keepIn K (.ref f8) = true)
    (a9 : PySem.W.nsIn K mainGlobals "summed" = some (some (.ref f9)))
    (l9 : K.lookup f9 = some ⟨oc9, od9, .func (PySem.W.fnOf "summed" "summed" (defArgs (topS 20)) (defBody (topS 20)) (defScope (topS 20)) .none kV9 dc9 pm9 an9 cd9 ct9), sl9⟩)
    (c9_ : PySem.W.codeIn K cd9 "summed" = true)
    (k9 : PySem.W.keepIn K (.ref f9) = true)
    (a10 : PySem.W.nsIn K mainGlobals "is_name" = some (some (.ref f10)))
    (l10 : K.lookup f10 = some ⟨oc10, od10, .func (PySem.W.fnOf "is_name" "is_name" (defArgs (topS 6)) (defBody (topS 6)) (defScope (topS 6)) .none kV10 dc10 pm10 an10 cd10 ct10), sl10⟩)
    (c10_ : PySem.W.codeIn K cd10 "is_name" = true)
    (k10 : PySem.W.keepIn K (.ref f10) = true)
    (a11 : PySem.W.nsIn K mainGlobals "is_unknown" = some (some (.ref f11)))
    (l11 : K.lookup f11 = some ⟨oc11, od11, .func (PySem.W.fnOf "is_unknown" "is_unknown" (defArgs (topS 18)) (defBody (topS 18)) (defScope (topS 18)) .none kV11 dc11 pm11 an11 cd11 ct11), sl11⟩)
    (c11_ : PySem.W.codeIn K cd11 "is_unknown" = true)
    (k11 : PySem.W.keepIn K (.ref f11) = true)
    (a12 : PySem.W.nsIn K mainGlobals "is_pair_of" = some (some (.ref f12)))
    (l12 : K.lookup f12 = some ⟨oc12, od12, .func (PySem.W.fnOf "is_pair_of" "is_pair_of" (defArgs (topS 21)) (defBody (topS 21)) (defScope (topS 21)) .none kV12 dc12 pm12 an12 cd12 ct12), sl12⟩)
    (c12_ : PySem.W.codeIn K cd12 "is_pair_of" = true)
    (k12 : PySem.W.keepIn K (.ref f12) = true)
    (a13 : PySem.W.nsIn K mainGlobals "is_sum" = some (some (.ref f13)))
    (l13 : K.lookup f13 = some ⟨oc13, od13, .func (PySem.W.fnOf "is_sum" "is_sum" (defArgs (topS 22)) (defBody (topS 22)) (defScope (topS 22)) .none kV13 dc13 pm13 an13 cd13 ct13), sl13⟩)
    (c13_ : PySem.W.codeIn K cd13 "is_sum" = true)
    (k13 : PySem.W.keepIn K (.ref f13) = true)
    (a14 : PySem.W.nsIn K mainGlobals "sum_of" = some (some (.ref f14)))
    (l14 : K.lookup f14 = some ⟨oc14, od14, .func (PySem.W.fnOf "sum_of" "sum_of" (defArgs (topS 23)) (defBody (topS 23)) (defScope (topS 23)) .none kV14 dc14 pm14 an14 cd14 ct14), sl14⟩)
    (c14_ : PySem.W.codeIn K cd14 "sum_of" = true)
    (k14 : PySem.W.keepIn K (.ref f14) = true)
    (a15 : PySem.W.nsIn K mainGlobals "as_row" = some (some (.ref f15)))
    (l15 : K.lookup f15 = some ⟨oc15, od15, .func (PySem.W.fnOf "as_row" "as_row" (defArgs (topS 40)) (defBody (topS 40)) (defScope (topS 40)) .none kV15 dc15 pm15 an15 cd15 ct15), sl15⟩)
    (c15_ : PySem.W.codeIn K cd15 "as_row" = true)
    (k15 : PySem.W.keepIn K (.ref f15) = true)
    (a16 : PySem.W.nsIn K mainGlobals "is_row" = some (some (.ref f16)))
    (l16 : K.lookup f16 = some ⟨oc16, od16, .func (PySem.W.fnOf "is_row" "is_row" (defArgs (topS 39)) (defBody (topS 39)) (defScope (topS 39)) .none kV16 dc16 pm16 an16 cd16 ct16), sl16⟩)
    (c16_ : PySem.W.codeIn K cd16 "is_row" = true)
    (k16 : PySem.W.keepIn K (.ref f16) = true)
    (a17 : PySem.W.findIn K (.ref Q0) "__init__" = some (some (.ref f17)))
    (i17_ : PySem.W.isFn K (.ref f17) = true)
    (l17 : K.lookup f17 = some ⟨oc17, od17, .func (PySem.W.fnOf "__init__" "Draft.__init__" (defArgs (inS 41 0)) (defBody (inS 41 0)) (defScope (inS 41 0)) .none kV17 dc17 pm17 an17 cd17 ct17), sl17⟩)
    (c17_ : PySem.W.codeIn K cd17 "Draft.__init__" = true)
    (k17 : PySem.W.keepIn K (.ref f17) = true)
    (a18 : PySem.W.nsIn K mainGlobals "_law_spots" = some (some (.ref f18)))
    (l18 : K.lookup f18 = some ⟨oc18, od18, .func (PySem.W.fnOf "_law_spots" "_law_spots" (defArgs (topS 49)) (defBody (topS 49)) (defScope (topS 49)) .none kV18 dc18 pm18 an18 cd18 ct18), sl18⟩)
    (c18_ : PySem.W.codeIn K cd18 "_law_spots" = true)
    (k18 : PySem.W.keepIn K (.ref f18) = true)
    (a19 : PySem.W.nsIn K mainGlobals "_law_branches" = some (some (.ref f19)))
    (l19 : K.lookup f19 = some ⟨oc19, od19, .func (PySem.W.fnOf "_law_branches" "_law_branches" (defArgs (topS 48)) (defBody (topS 48)) (defScope (topS 48)) .none kV19 dc19 pm19 an19 cd19 ct19), sl19⟩)
    (c19_ : PySem.W.codeIn K cd19 "_law_branches" = true)
    (k19 : PySem.W.keepIn K (.ref f19) = true)
    (a20 : PySem.W.nsIn K mainGlobals "_law_outs" = some (some (.ref f20)))
    (l20 : K.lookup f20 = some ⟨oc20, od20, .func (PySem.W.fnOf "_law_outs" "_law_outs" (defArgs (topS 50)) (defBody (topS 50)) (defScope (topS 50)) .none kV20 dc20 pm20 an20 cd20 ct20), sl20⟩)
    (c20_ : PySem.W.codeIn K cd20 "_law_outs" = true)
    (k20 : PySem.W.keepIn K (.ref f20) = true)
    (a21 : PySem.W.nsIn K mainGlobals "_law_begins" = some (some (.ref f21)))
    (l21 : K.lookup f21 = some ⟨oc21, od21, .func (PySem.W.fnOf "_law_begins" "_law_begins" (defArgs (topS 51)) (defBody (topS 51)) (defScope (topS 51)) .none kV21 dc21 pm21 an21 cd21 ct21), sl21⟩)
    (c21_ : PySem.W.codeIn K cd21 "_law_begins" = true)
    (k21 : PySem.W.keepIn K (.ref f21) = true)
    (a22 : PySem.W.nsIn K mainGlobals "_law_ways" = some (some (.ref f22)))
    (l22 : K.lookup f22 = some ⟨oc22, od22, .func (PySem.W.fnOf "_law_ways" "_law_ways" (defArgs (topS 52)) (defBody (topS 52)) (defScope (topS 52)) .none kV22 dc22 pm22 an22 cd22 ct22), sl22⟩)
    (c22_ : PySem.W.codeIn K cd22 "_law_ways" = true)
    (k22 : PySem.W.keepIn K (.ref f22) = true)
    (a23 : PySem.W.nsIn K mainGlobals "_law_long" = some (some (.ref f23)))
    (l23 : K.lookup f23 = some ⟨oc23, od23, .func (PySem.W.fnOf "_law_long" "_law_long" (defArgs (topS 53)) (defBody (topS 53)) (defScope (topS 53)) .none kV23 dc23 pm23 an23 cd23 ct23), sl23⟩)
    (c23_ : PySem.W.codeIn K cd23 "_law_long" = true)
    (k23 : PySem.W.keepIn K (.ref f23) = true)
    (a24 : PySem.W.nsIn K mainGlobals "_law_grown" = some (some (.ref f24)))
    (l24 : K.lookup f24 = some ⟨oc24, od24, .func (PySem.W.fnOf "_law_grown" "_law_grown" (defArgs (topS 54)) (defBody (topS 54)) (defScope (topS 54)) .none kV24 dc24 pm24 an24 cd24 ct24), sl24⟩)
    (c24_ : PySem.W.codeIn K cd24 "_law_grown" = true)
    (k24 : PySem.W.keepIn K (.ref f24) = true)
    (a25 : PySem.W.nsIn K mainGlobals "_law_met" = some (some (.ref f25)))
    (l25 : K.lookup f25 = some ⟨oc25, od25, .func (PySem.W.fnOf "_law_met" "_law_met" (defArgs (topS 55)) (defBody (topS 55)) (defScope (topS 55)) .none kV25 dc25 pm25 an25 cd25 ct25), sl25⟩)
    (c25_ : PySem.W.codeIn K cd25 "_law_met" = true)
    (k25 : PySem.W.keepIn K (.ref f25) = true)
    (a26 : PySem.W.nsIn K mainGlobals "_law_told_sum" = some (some (.ref f26)))
    (l26 : K.lookup f26 = some ⟨oc26, od26, .func (PySem.W.fnOf "_law_told_sum" "_law_told_sum" (defArgs (topS 58)) (defBody (topS 58)) (defScope (topS 58)) .none kV26 dc26 pm26 an26 cd26 ct26), sl26⟩)
    (c26_ : PySem.W.codeIn K cd26 "_law_told_sum" = true)
    (k26 : PySem.W.keepIn K (.ref f26) = true)
    (a27 : PySem.W.nsIn K mainGlobals "_law_put_in" = some (some (.ref f27)))
    (l27 : K.lookup f27 = some ⟨oc27, od27, .func (PySem.W.fnOf "_law_put_in" "_law_put_in" (defArgs (topS 59)) (defBody (topS 59)) (defScope (topS 59)) .none kV27 dc27 pm27 an27 cd27 ct27), sl27⟩)
    (c27_ : PySem.W.codeIn K cd27 "_law_put_in" = true)
    (k27 : PySem.W.keepIn K (.ref f27) = true)
    (a28 : PySem.W.nsIn K mainGlobals "_law_coded" = some (some (.ref f28)))
    (l28 : K.lookup f28 = some ⟨oc28, od28, .func (PySem.W.fnOf "_law_coded" "_law_coded" (defArgs (topS 60)) (defBody (topS 60)) (defScope (topS 60)) .none kV28 dc28 pm28 an28 cd28 ct28), sl28⟩)
    (c28_ : PySem.W.codeIn K cd28 "_law_coded" = true)
    (k28 : PySem.W.keepIn K (.ref f28) = true)
    (a29 : PySem.W.findIn K (.ref Q0) "branches" = some (some (.ref f29)))
    (i29_ : PySem.W.isFn K (.ref f29) = true)
    (l29 : K.lookup f29 = some ⟨oc29, od29, .func (PySem.W.fnOf "branches" "Draft.branches" (defArgs (inS 41 4)) (defBody (inS 41 4)) (defScope (inS 41 4)) .none kV29 dc29 pm29 an29 cd29 ct29), sl29⟩)
    (c29_ : PySem.W.codeIn K cd29 "Draft.branches" = true)
    (k29 : PySem.W.keepIn K (.ref f29) = true)
    (a30 : PySem.W.findIn K (.ref Q0) "leads_out" = some (some (.ref f30)))
    (i30_ : PySem.W.isFn K (.ref f30) = true)
    (l30 : K.lookup f30 = some ⟨oc30, od30, .func (PySem.W.fnOf "leads_out" "Draft.leads_out" (defArgs (inS 41 5)) (defBody (inS 41 5)) (defScope (inS 41 5)) .none kV30 dc30 pm30 an30 cd30 ct30), sl30⟩)
    (c30_ : PySem.W.codeIn K cd30 "Draft.leads_out" = true)
    (k30 : PySem.W.keepIn K (.ref f30) = true)
    (a31 : PySem.W.findIn K (.ref Q0) "out" = some (some (.ref f31)))
    (i31_ : PySem.W.isFn K (.ref f31) = true)
    (l31 : K.lookup f31 = some ⟨oc31, od31, .func (PySem.W.fnOf "out" "Draft.out" (defArgs (inS 41 6)) (defBody (inS 41 6)) (defScope (inS 41 6)) .none kV31 dc31 pm31 an31 cd31 ct31), sl31⟩)
    (c31_ : PySem.W.codeIn K cd31 "Draft.out" = true)
    (k31 : PySem.W.keepIn K (.ref f31) = true)
    (a32 : PySem.W.findIn K (.ref Q0) "checked" = some (some (.ref f32)))
    (i32_ : PySem.W.isFn K (.ref f32) = true)
    (l32 : K.lookup f32 = some ⟨oc32, od32, .func (PySem.W.fnOf "checked" "Draft.checked" (defArgs (inS 41 8)) (defBody (inS 41 8)) (defScope (inS 41 8)) .none kV32 dc32 pm32 an32 cd32 ct32), sl32⟩)
    (c32_ : PySem.W.codeIn K cd32 "Draft.checked" = true)
    (k32 : PySem.W.keepIn K (.ref f32) = true)
    (a33 : PySem.W.findIn K (.ref Q0) "length_of" = some (some (.ref f33)))
    (i33_ : PySem.W.isFn K (.ref f33) = true)
    (l33 : K.lookup f33 = some ⟨oc33, od33, .func (PySem.W.fnOf "length_of" "Draft.length_of" (defArgs (inS 41 9)) (defBody (inS 41 9)) (defScope (inS 41 9)) .none kV33 dc33 pm33 an33 cd33 ct33), sl33⟩)
    (c33_ : PySem.W.codeIn K cd33 "Draft.length_of" = true)
    (k33 : PySem.W.keepIn K (.ref f33) = true)
    (a34 : PySem.W.findIn K (.ref Q0) "begins" = some (some (.ref f34)))
    (i34_ : PySem.W.isFn K (.ref f34) = true)
    (l34 : K.lookup f34 = some ⟨oc34, od34, .func (PySem.W.fnOf "begins" "Draft.begins" (defArgs (inS 41 10)) (defBody (inS 41 10)) (defScope (inS 41 10)) .none kV34 dc34 pm34 an34 cd34 ct34), sl34⟩)
    (c34_ : PySem.W.codeIn K cd34 "Draft.begins" = true)
    (k34 : PySem.W.keepIn K (.ref f34) = true)
    (a35 : PySem.W.findIn K (.ref Q0) "open_ones" = some (some (.ref f35)))
    (i35_ : PySem.W.isFn K (.ref f35) = true)
    (l35 : K.lookup f35 = some ⟨oc35, od35, .func (PySem.W.fnOf "open_ones" "Draft.open_ones" (defArgs (inS 41 7)) (defBody (inS 41 7)) (defScope (inS 41 7)) .none kV35 dc35 pm35 an35 cd35 ct35), sl35⟩)
    (c35_ : PySem.W.codeIn K cd35 "Draft.open_ones" = true)
    (k35 : PySem.W.keepIn K (.ref f35) = true)
    (a36 : PySem.W.findIn K (.ref Q0) "ways" = some (some (.ref f36)))
    (i36_ : PySem.W.isFn K (.ref f36) = true)
    (l36 : K.lookup f36 = some ⟨oc36, od36, .func (PySem.W.fnOf "ways" "Draft.ways" (defArgs (inS 41 12)) (defBody (inS 41 12)) (defScope (inS 41 12)) .none kV36 dc36 pm36 an36 cd36 ct36), sl36⟩)
    (c36_ : PySem.W.codeIn K cd36 "Draft.ways" = true)
    (k36 : PySem.W.keepIn K (.ref f36) = true)
    (a37 : PySem.W.findIn K (.ref Q0) "too_long" = some (some (.ref f37)))
    (i37_ : PySem.W.isFn K (.ref f37) = true)
    (l37 : K.lookup f37 = some ⟨oc37, od37, .func (PySem.W.fnOf "too_long" "Draft.too_long" (defArgs (inS 41 14)) (defBody (inS 41 14)) (defScope (inS 41 14)) .none kV37 dc37 pm37 an37 cd37 ct37), sl37⟩)
    (c37_ : PySem.W.codeIn K cd37 "Draft.too_long" = true)
    (k37 : PySem.W.keepIn K (.ref f37) = true)
    (a38 : PySem.W.nsIn K mainGlobals "sum_at" = some (some (.ref f38)))
    (l38 : K.lookup f38 = some ⟨oc38, od38, .func (PySem.W.fnOf "sum_at" "sum_at" (defArgs (topS 27)) (defBody (topS 27)) (defScope (topS 27)) .none kV38 dc38 pm38 an38 cd38 ct38), sl38⟩)
    (c38_ : PySem.W.codeIn K cd38 "sum_at" = true)
    (k38 : PySem.W.keepIn K (.ref f38) = true)
    (a39 : PySem.W.nsIn K mainGlobals "added" = some (some (.ref f39)))
    (l39 : K.lookup f39 = some ⟨oc39, od39, .func (PySem.W.fnOf "added" "added" (defArgs (topS 24)) (defBody (topS 24)) (defScope (topS 24)) .none kV39 dc39 pm39 an39 cd39 ct39), sl39⟩)
    (c39_ : PySem.W.codeIn K cd39 "added" = true)
    (k39 : PySem.W.keepIn K (.ref f39) = true)
    (a40 : PySem.W.nsIn K mainGlobals "put" = some (some (.ref f40)))
    (l40 : K.lookup f40 = some ⟨oc40, od40, .func (PySem.W.fnOf "put" "put" (defArgs (topS 25)) (defBody (topS 25)) (defScope (topS 25)) .none kV40 dc40 pm40 an40 cd40 ct40), sl40⟩)
    (c40_ : PySem.W.codeIn K cd40 "put" = true)
    (k40 : PySem.W.keepIn K (.ref f40) = true)
    (a41 : PySem.W.nsIn K mainGlobals "is_below" = some (some (.ref f41)))
    (l41 : K.lookup f41 = some ⟨oc41, od41, .func (PySem.W.fnOf "is_below" "is_below" (defArgs (topS 34)) (defBody (topS 34)) (defScope (topS 34)) .none kV41 dc41 pm41 an41 cd41 ct41), sl41⟩)
    (c41_ : PySem.W.codeIn K cd41 "is_below" = true)
    (k41 : PySem.W.keepIn K (.ref f41) = true)
    (a42 : PySem.W.nsIn K mainGlobals "coded" = some (some (.ref f42)))
    (l42 : K.lookup f42 = some ⟨oc42, od42, .func (PySem.W.fnOf "coded" "coded" (defArgs (topS 35)) (defBody (topS 35)) (defScope (topS 35)) (.ref T42) kV42 dc42 pm42 an42 cd42 ct42), sl42⟩)
    (c42_ : PySem.W.codeIn K cd42 "coded" = true)
    (k42 : PySem.W.keepIn K (.ref f42) = true)
    (lT42 : K.lookup T42 = some oT42)
    (oT42_ : oT42.data = .seq [Value.int 0 t42_0, Value.int 0 t42_1, Value.int 0 t42_2].toArray nT42)
    (a43 : PySem.W.findIn K (.ref Q0) "branch_words" = some (some (.ref f43)))
    (i43_ : PySem.W.isFn K (.ref f43) = true)
    (l43 : K.lookup f43 = some ⟨oc43, od43, .func (PySem.W.fnOf "branch_words" "Draft.branch_words" (defArgs (inS 41 33)) (defBody (inS 41 33)) (defScope (inS 41 33)) .none kV43 dc43 pm43 an43 cd43 ct43), sl43⟩)
    (c43_ : PySem.W.codeIn K cd43 "Draft.branch_words" = true)
    (k43 : PySem.W.keepIn K (.ref f43) = true)
    (a44 : PySem.W.findIn K (.ref Q0) "coded_words" = some (some (.ref f44)))
    (i44_ : PySem.W.isFn K (.ref f44) = true)
    (l44 : K.lookup f44 = some ⟨oc44, od44, .func (PySem.W.fnOf "coded_words" "Draft.coded_words" (defArgs (inS 41 34)) (defBody (inS 41 34)) (defScope (inS 41 34)) .none kV44 dc44 pm44 an44 cd44 ct44), sl44⟩)
    (c44_ : PySem.W.codeIn K cd44 "Draft.coded_words" = true)
    (k44 : PySem.W.keepIn K (.ref f44) = true)
    (a45 : PySem.W.nsIn K mainGlobals "law" = some (some (.ref f45)))
    (l45 : K.lookup f45 = some ⟨oc45, od45, .func (PySem.W.fnOf "law" "law" (defArgs (topS 61)) (defBody (topS 61)) (defScope (topS 61)) .none kV45 dc45 pm45 an45 (.ref c45) ct45), sl45⟩)
    (c45_ : PySem.W.codeIn K (.ref c45) "law" = true)
    (k45 : PySem.W.keepIn K (.ref f45) = true)
    (z_len : PySem.W.nsIn K mainGlobals "len" = some none)
    (z_int : PySem.W.nsIn K mainGlobals "int" = some none)
    (z_isinstance : PySem.W.nsIn K mainGlobals "isinstance" = some none)
    (z_bool : PySem.W.nsIn K mainGlobals "bool" = some none)
    (z_str : PySem.W.nsIn K mainGlobals "str" = some none)
    (z_list : PySem.W.nsIn K mainGlobals "list" = some none)
    (z_tuple : PySem.W.nsIn K mainGlobals "tuple" = some none)
    (z_dict : PySem.W.nsIn K mainGlobals "dict" = some none)
    (z_all : PySem.W.nsIn K mainGlobals "all" = some none)
    (z_sorted : PySem.W.nsIn K mainGlobals "sorted" = some none)
    (z_range : PySem.W.nsIn K mainGlobals "range" = some none)
    (z_enumerate : PySem.W.nsIn K mainGlobals "enumerate" = some none)
    (z_zip : PySem.W.nsIn K mainGlobals "zip" = some none)
    (z_min : PySem.W.nsIn K mainGlobals "min" = some none)
    (z_set : PySem.W.nsIn K mainGlobals "set" = some none)
    (g_KINDS : PySem.W.nsIn K mainGlobals "KINDS" = some (some (.ref q_KINDS)))
    (gl_KINDS : K.lookup q_KINDS = some o_KINDS)
    (gc_KINDS : o_KINDS.cls = .type "tuple")
    (gd_KINDS : o_KINDS.dict = none)
    (gs_KINDS : o_KINDS.data = .seq [Value.str "piece" t_KINDS_0, Value.str "name" t_KINDS_1, Value.str "in" t_KINDS_2].toArray n_KINDS)
    (g_LONGEST : PySem.W.nsIn K mainGlobals "LONGEST" = some (some (.int (8) t_LONGEST)))
    (g_LETTERS : PySem.W.nsIn K mainGlobals "LETTERS" = some (some (.str "abcdefghijklmnopqrstuvwxyz" t_LETTERS)))
    (g_WIDEST : PySem.W.nsIn K mainGlobals "WIDEST" = some (some (.int (64) t_WIDEST)))
    (g_CODES_drafts : PySem.W.nsIn K mainGlobals "CODES_drafts" = some (some (.ref q_CODES_drafts)))
    (gl_CODES_drafts : K.lookup q_CODES_drafts = some o_CODES_drafts)
    (gc_CODES_drafts : o_CODES_drafts.cls = .type "tuple")
    (gd_CODES_drafts : o_CODES_drafts.dict = none)
    (gs_CODES_drafts : o_CODES_drafts.data = .seq [Value.ref r_CODES_drafts_0, Value.ref r_CODES_drafts_1, Value.ref r_CODES_drafts_2].toArray n_CODES_drafts)
    (gl_CODES_drafts_0 : K.lookup r_CODES_drafts_0 = some o_CODES_drafts_0)
    (gc_CODES_drafts_0 : o_CODES_drafts_0.cls = .type "tuple")
    (gs_CODES_drafts_0 : o_CODES_drafts_0.data = .seq [Value.str "ask" t_CODES_drafts_0_0, Value.int 3 t_CODES_drafts_0_1].toArray n_CODES_drafts_0)
    (gl_CODES_drafts_1 : K.lookup r_CODES_drafts_1 = some o_CODES_drafts_1)
    (gc_CODES_drafts_1 : o_CODES_drafts_1.cls = .type "tuple")
    (gs_CODES_drafts_1 : o_CODES_drafts_1.data = .seq [Value.str "go" t_CODES_drafts_1_0, Value.int 5 t_CODES_drafts_1_1].toArray n_CODES_drafts_1)
    (gl_CODES_drafts_2 : K.lookup r_CODES_drafts_2 = some o_CODES_drafts_2)
    (gc_CODES_drafts_2 : o_CODES_drafts_2.cls = .type "tuple")
    (gs_CODES_drafts_2 : o_CODES_drafts_2.data = .seq [Value.str "call" t_CODES_drafts_2_0, Value.int 14 t_CODES_drafts_2_1].toArray n_CODES_drafts_2)
    (g_LOW : PySem.W.nsIn K mainGlobals "LOW" = some (some (.int (-256) t_LOW)))
    (g_HIGH : PySem.W.nsIn K mainGlobals "HIGH" = some (some (.int (255) t_HIGH)))
    (g_CODES_words : PySem.W.nsIn K mainGlobals "CODES_words" = some (some (.int (32) t_CODES_words)))
    (g_FIELDS : PySem.W.nsIn K mainGlobals "FIELDS" = some (some (.int (8) t_FIELDS)))
    (g_STEP : PySem.W.nsIn K mainGlobals "STEP" = some (some (.int (2048) t_STEP)))
    (al_put_sums : PySem.W.nsIn K mainGlobals "put_sums" = some (some (.ref f40)))
    (a_BadSum : PySem.W.nsIn K mainGlobals "BadSum" = some (some (.ref C_BadSum)))
    (i_BadSum : PySem.W.findIn K (.ref C_BadSum) "__init__" = some (some (.ref I_BadSum)))
    (ty_BadSum : PySem.W.typeIn K (.ref I_BadSum) = some (.type "function"))
    (l_BadSum : K.lookup I_BadSum = some ⟨ocBadSum, odBadSum, .func (PySem.W.fnOf "__init__" "BadSum.__init__" (defArgs (inS 9 0)) (defBody (inS 9 0)) (defScope (inS 9 0)) .none kVBadSum dcBadSum pmBadSum anBadSum cdBadSum ctBadSum), slBadSum⟩)
    (cc_BadSum : PySem.W.codeIn K cdBadSum "BadSum.__init__" = true)
    (k_BadSum : PySem.W.keepIn K (.ref I_BadSum) = true)
    (cl_BadSum : K.lookup C_BadSum = some (excClassObj nm_BadSum qn_BadSum C_BadSum N_BadSum bs_BadSum bm_BadSum true sn_BadSum sub_BadSum ab_BadSum col_BadSum dd_BadSum k0_BadSum k1_BadSum k2_BadSum k3_BadSum k5_BadSum "ValueError.__new__"))
    (ve_BadSum : PySem.HandSPX.refsVE bm_BadSum = true)
    (sa_BadSum : PySem.W.findIn K (.ref C_BadSum) "__setattr__" = some (some (.builtin "object.__setattr__")))
    (ex_BadSum : PySem.W.subIn K (.ref C_BadSum) (.type "BaseException") = some true)
    (tc_BadSum : PySem.W.typeIn K (.ref C_BadSum) = some (.type "type"))
    (kc_BadSum : PySem.W.keepIn K (.ref C_BadSum) = true)
    (xa_BadSum : PySem.W.findIn K (.ref C_BadSum) "__getattribute__" = some (some (.builtin "BaseException.__getattribute__")))
    (xg_BadSum : PySem.W.findIn K (.ref C_BadSum) "__getattr__" = some none)
    (xh_BadSum : PySem.W.hasDictIn K C_BadSum = true)
    (no_BadSum_thing : PySem.W.findIn K (.ref C_BadSum) "thing" = some none)
    (a_BadDraft : PySem.W.nsIn K mainGlobals "BadDraft" = some (some (.ref C_BadDraft)))
    (i_BadDraft : PySem.W.findIn K (.ref C_BadDraft) "__init__" = some (some (.ref I_BadDraft)))
    (ty_BadDraft : PySem.W.typeIn K (.ref I_BadDraft) = some (.type "function"))
    (l_BadDraft : K.lookup I_BadDraft = some ⟨ocBadDraft, odBadDraft, .func (PySem.W.fnOf "__init__" "BadDraft.__init__" (defArgs (inS 12 0)) (defBody (inS 12 0)) (defScope (inS 12 0)) .none kVBadDraft dcBadDraft pmBadDraft anBadDraft cdBadDraft ctBadDraft), slBadDraft⟩)
    (cc_BadDraft : PySem.W.codeIn K cdBadDraft "BadDraft.__init__" = true)
    (k_BadDraft : PySem.W.keepIn K (.ref I_BadDraft) = true)
    (cl_BadDraft : K.lookup C_BadDraft = some (excClassObj nm_BadDraft qn_BadDraft C_BadDraft N_BadDraft bs_BadDraft bm_BadDraft true sn_BadDraft sub_BadDraft ab_BadDraft col_BadDraft dd_BadDraft k0_BadDraft k1_BadDraft k2_BadDraft k3_BadDraft k5_BadDraft "ValueError.__new__"))
    (ve_BadDraft : PySem.HandSPX.refsVE bm_BadDraft = true)
    (sa_BadDraft : PySem.W.findIn K (.ref C_BadDraft) "__setattr__" = some (some (.builtin "object.__setattr__")))
    (ex_BadDraft : PySem.W.subIn K (.ref C_BadDraft) (.type "BaseException") = some true)
    (tc_BadDraft : PySem.W.typeIn K (.ref C_BadDraft) = some (.type "type"))
    (kc_BadDraft : PySem.W.keepIn K (.ref C_BadDraft) = true)
    (xa_BadDraft : PySem.W.findIn K (.ref C_BadDraft) "__getattribute__" = some (some (.builtin "BaseException.__getattribute__")))
    (xg_BadDraft : PySem.W.findIn K (.ref C_BadDraft) "__getattr__" = some none)
    (xh_BadDraft : PySem.W.hasDictIn K C_BadDraft = true)
    (no_BadDraft_index : PySem.W.findIn K (.ref C_BadDraft) "index" = some none)
    (a_NoName : PySem.W.nsIn K mainGlobals "NoName" = some (some (.ref C_NoName)))
    (i_NoName : PySem.W.findIn K (.ref C_NoName) "__init__" = some (some (.ref I_NoName)))
    (ty_NoName : PySem.W.typeIn K (.ref I_NoName) = some (.type "function"))
    (l_NoName : K.lookup I_NoName = some ⟨ocNoName, odNoName, .func (PySem.W.fnOf "__init__" "NoName.__init__" (defArgs (inS 11 0)) (defBody (inS 11 0)) (defScope (inS 11 0)) .none kVNoName dcNoName pmNoName anNoName cdNoName ctNoName), slNoName⟩)
    (cc_NoName : PySem.W.codeIn K cdNoName "NoName.__init__" = true)
    (k_NoName : PySem.W.keepIn K (.ref I_NoName) = true)
    (cl_NoName : K.lookup C_NoName = some (excClassObj nm_NoName qn_NoName C_NoName N_NoName bs_NoName bm_NoName true sn_NoName sub_NoName ab_NoName col_NoName dd_NoName k0_NoName k1_NoName k2_NoName k3_NoName k5_NoName "ValueError.__new__"))
    (ve_NoName : PySem.HandSPX.refsVE bm_NoName = true)
    (sa_NoName : PySem.W.findIn K (.ref C_NoName) "__setattr__" = some (some (.builtin "object.__setattr__")))
    (ex_NoName : PySem.W.subIn K (.ref C_NoName) (.type "BaseException") = some true)
    (tc_NoName : PySem.W.typeIn K (.ref C_NoName) = some (.type "type"))
    (kc_NoName : PySem.W.keepIn K (.ref C_NoName) = true)
    (xa_NoName : PySem.W.findIn K (.ref C_NoName) "__getattribute__" = some (some (.builtin "BaseException.__getattribute__")))
    (xg_NoName : PySem.W.findIn K (.ref C_NoName) "__getattr__" = some none)
    (xh_NoName : PySem.W.hasDictIn K C_NoName = true)
    (no_NoName_name : PySem.W.findIn K (.ref C_NoName) "name" = some none)
    (a_BadChoice : PySem.W.nsIn K mainGlobals "BadChoice" = some (some (.ref C_BadChoice)))
    (i_BadChoice : PySem.W.findIn K (.ref C_BadChoice) "__init__" = some (some (.ref I_BadChoice)))
    (ty_BadChoice : PySem.W.typeIn K (.ref I_BadChoice) = some (.type "function"))
    (l_BadChoice : K.lookup I_BadChoice = some ⟨ocBadChoice, odBadChoice, .func (PySem.W.fnOf "__init__" "BadChoice.__init__" (defArgs (inS 13 0)) (defBody (inS 13 0)) (defScope (inS 13 0)) .none kVBadChoice dcBadChoice pmBadChoice anBadChoice cdBadChoice ctBadChoice), slBadChoice⟩)
    (cc_BadChoice : PySem.W.codeIn K cdBadChoice "BadChoice.__init__" = true)
    (k_BadChoice : PySem.W.keepIn K (.ref I_BadChoice) = true)
    (cl_BadChoice : K.lookup C_BadChoice = some (excClassObj nm_BadChoice qn_BadChoice C_BadChoice N_BadChoice bs_BadChoice bm_BadChoice true sn_BadChoice sub_BadChoice ab_BadChoice col_BadChoice dd_BadChoice k0_BadChoice k1_BadChoice k2_BadChoice k3_BadChoice k5_BadChoice "ValueError.__new__"))
    (ve_BadChoice : PySem.HandSPX.refsVE bm_BadChoice = true)
    (sa_BadChoice : PySem.W.findIn K (.ref C_BadChoice) "__setattr__" = some (some (.builtin "object.__setattr__")))
    (ex_BadChoice : PySem.W.subIn K (.ref C_BadChoice) (.type "BaseException") = some true)
    (tc_BadChoice : PySem.W.typeIn K (.ref C_BadChoice) = some (.type "type"))
    (kc_BadChoice : PySem.W.keepIn K (.ref C_BadChoice) = true)
    (xa_BadChoice : PySem.W.findIn K (.ref C_BadChoice) "__getattribute__" = some (some (.builtin "BaseException.__getattribute__")))
    (xg_BadChoice : PySem.W.findIn K (.ref C_BadChoice) "__getattr__" = some none)
    (xh_BadChoice : PySem.W.hasDictIn K C_BadChoice = true)
    (no_BadChoice_thing : PySem.W.findIn K (.ref C_BadChoice) "thing" = some none)
    (a_TooLong : PySem.W.nsIn K mainGlobals "TooLong" = some (some (.ref C_TooLong)))
    (i_TooLong : PySem.W.findIn K (.ref C_TooLong) "__init__" = some (some (.ref I_TooLong)))
    (ty_TooLong : PySem.W.typeIn K (.ref I_TooLong) = some (.type "function"))
    (l_TooLong : K.lookup I_TooLong = some ⟨ocTooLong, odTooLong, .func (PySem.W.fnOf "__init__" "TooLong.__init__" (defArgs (inS 15 0)) (defBody (inS 15 0)) (defScope (inS 15 0)) .none kVTooLong dcTooLong pmTooLong anTooLong cdTooLong ctTooLong), slTooLong⟩)
    (cc_TooLong : PySem.W.codeIn K cdTooLong "TooLong.__init__" = true)
    (k_TooLong : PySem.W.keepIn K (.ref I_TooLong) = true)
    (cl_TooLong : K.lookup C_TooLong = some (excClassObj nm_TooLong qn_TooLong C_TooLong N_TooLong bs_TooLong bm_TooLong true sn_TooLong sub_TooLong ab_TooLong col_TooLong dd_TooLong k0_TooLong k1_TooLong k2_TooLong k3_TooLong k5_TooLong "ValueError.__new__"))
    (ve_TooLong : PySem.HandSPX.refsVE bm_TooLong = true)
    (sa_TooLong : PySem.W.findIn K (.ref C_TooLong) "__setattr__" = some (some (.builtin "object.__setattr__")))
    (ex_TooLong : PySem.W.subIn K (.ref C_TooLong) (.type "BaseException") = some true)
    (tc_TooLong : PySem.W.typeIn K (.ref C_TooLong) = some (.type "type"))
    (kc_TooLong : PySem.W.keepIn K (.ref C_TooLong) = true)
    (xa_TooLong : PySem.W.findIn K (.ref C_TooLong) "__getattribute__" = some (some (.builtin "BaseException.__getattribute__")))
    (xg_TooLong : PySem.W.findIn K (.ref C_TooLong) "__getattr__" = some none)
    (xh_TooLong : PySem.W.hasDictIn K C_TooLong = true)
    (no_TooLong_index : PySem.W.findIn K (.ref C_TooLong) "index" = some none)
    (a_BadField : PySem.W.nsIn K mainGlobals "BadField" = some (some (.ref C_BadField)))
    (i_BadField : PySem.W.findIn K (.ref C_BadField) "__init__" = some (some (.ref I_BadField)))
    (ty_BadField : PySem.W.typeIn K (.ref I_BadField) = some (.type "function"))
    (l_BadField : K.lookup I_BadField = some ⟨ocBadField, odBadField, .func (PySem.W.fnOf "__init__" "BadField.__init__" (defArgs (inS 10 0)) (defBody (inS 10 0)) (defScope (inS 10 0)) .none kVBadField dcBadField pmBadField anBadField cdBadField ctBadField), slBadField⟩)
    (cc_BadField : PySem.W.codeIn K cdBadField "BadField.__init__" = true)
    (k_BadField : PySem.W.keepIn K (.ref I_BadField) = true)
    (cl_BadField : K.lookup C_BadField = some (excClassObj nm_BadField qn_BadField C_BadField N_BadField bs_BadField bm_BadField true sn_BadField sub_BadField ab_BadField col_BadField dd_BadField k0_BadField k1_BadField k2_BadField k3_BadField k5_BadField "ValueError.__new__"))
    (ve_BadField : PySem.HandSPX.refsVE bm_BadField = true)
    (sa_BadField : PySem.W.findIn K (.ref C_BadField) "__setattr__" = some (some (.builtin "object.__setattr__")))
    (ex_BadField : PySem.W.subIn K (.ref C_BadField) (.type "BaseException") = some true)
    (tc_BadField : PySem.W.typeIn K (.ref C_BadField) = some (.type "type"))
    (kc_BadField : PySem.W.keepIn K (.ref C_BadField) = true)
    (xa_BadField : PySem.W.findIn K (.ref C_BadField) "__getattribute__" = some (some (.builtin "BaseException.__getattribute__")))
    (xg_BadField : PySem.W.findIn K (.ref C_BadField) "__getattr__" = some none)
    (xh_BadField : PySem.W.hasDictIn K C_BadField = true)
    (no_BadField_name : PySem.W.findIn K (.ref C_BadField) "name" = some none)
    (m_BadSum_NoName : PySem.W.subIn K (.ref C_BadSum) (.ref C_NoName) = some false)
    (m_BadSum_BadChoice : PySem.W.subIn K (.ref C_BadSum) (.ref C_BadChoice) = some false)
    (m_BadSum_TooLong : PySem.W.subIn K (.ref C_BadSum) (.ref C_TooLong) = some false)
    (m_BadDraft_NoName : PySem.W.subIn K (.ref C_BadDraft) (.ref C_NoName) = some false)
    (m_BadDraft_BadChoice : PySem.W.subIn K (.ref C_BadDraft) (.ref C_BadChoice) = some false)
    (m_BadDraft_TooLong : PySem.W.subIn K (.ref C_BadDraft) (.ref C_TooLong) = some false)
    (m_NoName_NoName : PySem.W.subIn K (.ref C_NoName) (.ref C_NoName) = some true)
    (m_NoName_BadChoice : PySem.W.subIn K (.ref C_NoName) (.ref C_BadChoice) = some false)
    (m_NoName_TooLong : PySem.W.subIn K (.ref C_NoName) (.ref C_TooLong) = some false)
    (m_BadChoice_NoName : PySem.W.subIn K (.ref C_BadChoice) (.ref C_NoName) = some false)
    (m_BadChoice_BadChoice : PySem.W.subIn K (.ref C_BadChoice) (.ref C_BadChoice) = some true)
    (m_BadChoice_TooLong : PySem.W.subIn K (.ref C_BadChoice) (.ref C_TooLong) = some false)
    (m_TooLong_NoName : PySem.W.subIn K (.ref C_TooLong) (.ref C_NoName) = some false)
    (m_TooLong_BadChoice : PySem.W.subIn K (.ref C_TooLong) (.ref C_BadChoice) = some false)
    (m_TooLong_TooLong : PySem.W.subIn K (.ref C_TooLong) (.ref C_TooLong) = some true)
    (m_BadField_NoName : PySem.W.subIn K (.ref C_BadField) (.ref C_NoName) = some false)
    (m_BadField_BadChoice : PySem.W.subIn K (.ref C_BadField) (.ref C_BadChoice) = some false)
    (m_BadField_TooLong : PySem.W.subIn K (.ref C_BadField) (.ref C_TooLong) = some false) :
    Txt K mg (clsOf C_BadSum C_BadDraft C_NoName C_BadChoice C_TooLong C_BadField) :=
  ⟨dfn_mk X G a0 l0 c0_ k0 (fun _ _ _ _ _ _ us hl => match us, hl with | [_, _], _ => rfl),
  dfn_mk X G a1 l1 c1_ k1 (fun _ _ _ _ _ _ us hl => match us, hl with | [_, _], _ => rfl),
  dfn_mk X G a2 l2 c2_ k2 (fun _ _ _ _ _ _ us hl => match us, hl with | [_, _], _ => rfl),
  dfn_mk X G a3 l3 c3_ k3 (fun _ _ _ _ _ _ us hl => match us, hl with | [_, _], _ => rfl),
  dfn_mk X G a4 l4 c4_ k4 (fun _ _ _ _ _ _ us hl => match us, hl with | [_, _], _ => rfl),
  dfn_mk X G a5 l5 c5_ k5 (fun _ _ _ _ _ _ us hl => match us, hl with | [_, _, _], _ => rfl),
  dfn_mk X G a6 l6 c6_ k6 (fun _ _ _ _ _ _ us hl => match us, hl with | [_], _ => rfl),
  dfn_mk X G a7 l7 c7_ k7 (fun _ _ _ _ _ _ us hl => match us, hl with | [_], _ => rfl),
  dfn_mk X G a8 l8 c8_ k8 (fun _ _ _ _ _ _ us hl => match us, hl with | [_], _ => rfl),
  dfn_mk X G a9 l9 c9_ k9 (fun _ _ _ _ _ _ us hl => match us, hl with | [_, _], _ => rfl),
  dfn_mk X G a10 l10 c10_ k10 (fun _ _ _ _ _ _ us hl => match us, hl with | [_], _ => rfl),
  dfn_mk X G a11 l11 c11_ k11 (fun _ _ _ _ _ _ us hl => match us, hl with | [_], _ => rfl),
  dfn_mk X G a12 l12 c12_ k12 (fun _ _ _ _ _ _ us hl => match us, hl with | [_], _ => rfl),
  dfn_mk X G a13 l13 c13_ k13 (fun _ _ _ _ _ _ us hl => match us, hl with | [_], _ => rfl),
  dfn_mk X G a14 l14 c14_ k14 (fun _ _ _ _ _ _ us hl => match us, hl with | [_], _ => rfl),
  dfn_mk X G a15 l15 c15_ k15 (fun _ _ _ _ _ _ us hl => match us, hl with | [_], _ => rfl),
  dfn_mk X G a16 l16 c16_ k16 (fun _ _ _ _ _ _ us hl => match us, hl with | [_], _ => rfl),
  initF_mk X G ka_Draft km_Draft a17 i17_ kk_Draft l17 c17_ k17 (fun _ _ _ _ _ _ us hl => match us, hl with | [_, _], _ => rfl),
  dfn_mk X G a18 l18 c18_ k18 (fun _ _ _ _ _ _ us hl => match us, hl with | [_], _ => rfl),
  dfn_mk X G a19 l19 c19_ k19 (fun _ _ _ _ _ _ us hl => match us, hl with | [_], _ => rfl),
  dfn_mk X G a20 l20 c20_ k20 (fun _ _ _ _ _ _ us hl => match us, hl with | [_], _ => rfl),
  dfn_mk X G a21 l21 c21_ k21 (fun _ _ _ _ _ _ us hl => match us, hl with | [_, _], _ => rfl),
  dfn_mk X G a22 l22 c22_ k22 (fun _ _ _ _ _ _ us hl => match us, hl with | [_, _], _ => rfl),
  dfn_mk X G a23 l23 c23_ k23 (fun _ _ _ _ _ _ us hl => match us, hl with | [_, _], _ => rfl),
  dfn_mk X G a24 l24 c24_ k24 (fun _ _ _ _ _ _ us hl => match us, hl with | [_], _ => rfl),
  dfn_mk X G a25 l25 c25_ k25 (fun _ _ _ _ _ _ us hl => match us, hl with | [_], _ => rfl),
  dfn_mk X G a26 l26 c26_ k26 (fun _ _ _ _ _ _ us hl => match us, hl with | [_, _], _ => rfl),
  dfn_mk X G a27 l27 c27_ k27 (fun _ _ _ _ _ _ us hl => match us, hl with | [_, _, _], _ => rfl),
  dfn_mk X G a28 l28 c28_ k28 (fun _ _ _ _ _ _ us hl => match us, hl with | [_, _, _], _ => rfl),
  mthF_mk ka_Draft kg_Draft kd_Draft ko_Draft ks_Draft a29 i29_ l29 c29_ k29 (fun _ _ _ _ _ _ us hl => match us, hl with | [_], _ => rfl),
  mthF_mk ka_Draft kg_Draft kd_Draft ko_Draft ks_Draft a30 i30_ l30 c30_ k30 (fun _ _ _ _ _ _ us hl => match us, hl with | [_, _], _ => rfl),
  mthF_mk ka_Draft kg_Draft kd_Draft ko_Draft ks_Draft a31 i31_ l31 c31_ k31 (fun _ _ _ _ _ _ us hl => match us, hl with | [_], _ => rfl),
  mthF_mk ka_Draft kg_Draft kd_Draft ko_Draft ks_Draft a32 i32_ l32 c32_ k32 (fun _ _ _ _ _ _ us hl => match us, hl with | [_, _], _ => rfl),
  mthF_mk ka_Draft kg_Draft kd_Draft ko_Draft ks_Draft a33 i33_ l33 c33_ k33 (fun _ _ _ _ _ _ us hl => match us, hl with | [_, _, _, _], _ => rfl),
  mthF_mk ka_Draft kg_Draft kd_Draft ko_Draft ks_Draft a34 i34_ l34 c34_ k34 (fun _ _ _ _ _ _ us hl => match us, hl with | [_, _], _ => rfl),
  mthF_mk ka_Draft kg_Draft kd_Draft ko_Draft ks_Draft a35 i35_ l35 c35_ k35 (fun _ _ _ _ _ _ us hl => match us, hl with | [_], _ => rfl),
  mthF_mk ka_Draft kg_Draft kd_Draft ko_Draft ks_Draft a36 i36_ l36 c36_ k36 (fun _ _ _ _ _ _ us hl => match us, hl with | [_, _], _ => rfl),
  mthF_mk ka_Draft kg_Draft kd_Draft ko_Draft ks_Draft a37 i37_ l37 c37_ k37 (fun _ _ _ _ _ _ us hl => match us, hl with | [_, _], _ => rfl),
  dfn_mk X G a38 l38 c38_ k38 (fun _ _ _ _ _ _ us hl => match us, hl with | [_, _], _ => rfl),
  dfn_mk X G a39 l39 c39_ k39 (fun _ _ _ _ _ _ us hl => match us, hl with | [_, _, _], _ => rfl),
  dfn_mk X G a40 l40 c40_ k40 (fun _ _ _ _ _ _ us hl => match us, hl with | [_, _], _ => rfl),
  dfn_mk X G a41 l41 c41_ k41 (fun _ _ _ _ _ _ us hl => match us, hl with | [_, _], _ => rfl),
  dfnD_mk X G a42 l42 c42_ k42 lT42 oT42_ (.cons ⟨_, rfl⟩ (.cons ⟨_, rfl⟩ (.cons ⟨_, rfl⟩ .nil))) (by simp),
  mthF_mk ka_Draft kg_Draft kd_Draft ko_Draft ks_Draft a43 i43_ l43 c43_ k43 (fun _ _ _ _ _ _ us hl => match us, hl with | [_, _, _, _], _ => rfl),
  mthF_mk ka_Draft kg_Draft kd_Draft ko_Draft ks_Draft a44 i44_ l44 c44_ k44 (fun _ _ _ _ _ _ us hl => match us, hl with | [_, _, _], _ => rfl),
  clsF_mk ka_Draft kg_Draft kd_Draft ko_Draft ks_Draft,
  noF_mk ka_Draft kn_Draft_draft_rows,
  noF_mk ka_Draft kn_Draft_labels,
  PySem.W.mg_none_of X G z_len,
  PySem.W.mg_none_of X G z_int,
  PySem.W.mg_none_of X G z_isinstance,
  PySem.W.mg_none_of X G z_bool,
  PySem.W.mg_none_of X G z_str,
  PySem.W.mg_none_of X G z_list,
  PySem.W.mg_none_of X G z_tuple,
  PySem.W.mg_none_of X G z_dict,
  PySem.W.mg_none_of X G z_all,
  PySem.W.mg_none_of X G z_sorted,
  PySem.W.mg_none_of X G z_range,
  PySem.W.mg_none_of X G z_enumerate,
  PySem.W.mg_none_of X G z_zip,
  PySem.W.mg_none_of X G z_min,
  PySem.W.mg_none_of X G z_set,
  g_of_k (gc_tup (xs := [.str "piece", .str "name", .str "in"]) X G g_KINDS gl_KINDS gc_KINDS gd_KINDS gs_KINDS (.cons ⟨_, rfl⟩ (.cons ⟨_, rfl⟩ (.cons ⟨_, rfl⟩ .nil))) (fun _ => (.cons (.str _) (.cons (.str _) (.cons (.str _) .nil)))) (Nat.le_of_ble_eq_true rfl)),
  gc_int X G g_LONGEST,
  gc_str X G g_LETTERS,
  gc_int X G g_WIDEST,
  g_of_k (gc_tup (xs := [.ref r_CODES_drafts_0, .ref r_CODES_drafts_1, .ref r_CODES_drafts_2]) X G g_CODES_drafts gl_CODES_drafts gc_CODES_drafts gd_CODES_drafts gs_CODES_drafts (.cons rfl (.cons rfl (.cons rfl .nil))) (fun _ => (.cons (cst_in (xs := [.str "ask", .int 3]) gl_CODES_drafts_0 gc_CODES_drafts_0 gs_CODES_drafts_0 (.cons ⟨_, rfl⟩ (.cons ⟨_, rfl⟩ .nil)) (.cons (.str _) (.cons (.int _) .nil)) (Nat.le_of_ble_eq_true rfl)) (.cons (cst_in (xs := [.str "go", .int 5]) gl_CODES_drafts_1 gc_CODES_drafts_1 gs_CODES_drafts_1 (.cons ⟨_, rfl⟩ (.cons ⟨_, rfl⟩ .nil)) (.cons (.str _) (.cons (.int _) .nil)) (Nat.le_of_ble_eq_true rfl)) (.cons (cst_in (xs := [.str "call", .int 14]) gl_CODES_drafts_2 gc_CODES_drafts_2 gs_CODES_drafts_2 (.cons ⟨_, rfl⟩ (.cons ⟨_, rfl⟩ .nil)) (.cons (.str _) (.cons (.int _) .nil)) (Nat.le_of_ble_eq_true rfl)) .nil)))) (Nat.le_of_ble_eq_true rfl)),
  gc_int X G g_LOW,
  gc_int X G g_HIGH,
  gc_int X G g_CODES_words,
  gc_int X G g_FIELDS,
  gc_int X G g_STEP,
  gc_tup (xs := [.str "piece", .str "name", .str "in"]) X G g_KINDS gl_KINDS gc_KINDS gd_KINDS gs_KINDS (.cons ⟨_, rfl⟩ (.cons ⟨_, rfl⟩ (.cons ⟨_, rfl⟩ .nil))) (fun _ => (.cons (.str _) (.cons (.str _) (.cons (.str _) .nil)))) (Nat.le_of_ble_eq_true rfl),
  gc_tup (xs := [.ref r_CODES_drafts_0, .ref r_CODES_drafts_1, .ref r_CODES_drafts_2]) X G g_CODES_drafts gl_CODES_drafts gc_CODES_drafts gd_CODES_drafts gs_CODES_drafts (.cons rfl (.cons rfl (.cons rfl .nil))) (fun _ => (.cons (cst_in (xs := [.str "ask", .int 3]) gl_CODES_drafts_0 gc_CODES_drafts_0 gs_CODES_drafts_0 (.cons ⟨_, rfl⟩ (.cons ⟨_, rfl⟩ .nil)) (.cons (.str _) (.cons (.int _) .nil)) (Nat.le_of_ble_eq_true rfl)) (.cons (cst_in (xs := [.str "go", .int 5]) gl_CODES_drafts_1 gc_CODES_drafts_1 gs_CODES_drafts_1 (.cons ⟨_, rfl⟩ (.cons ⟨_, rfl⟩ .nil)) (.cons (.str _) (.cons (.int _) .nil)) (Nat.le_of_ble_eq_true rfl)) (.cons (cst_in (xs := [.str "call", .int 14]) gl_CODES_drafts_2 gc_CODES_drafts_2 gs_CODES_drafts_2 (.cons ⟨_, rfl⟩ (.cons ⟨_, rfl⟩ .nil)) (.cons (.str _) (.cons (.int _) .nil)) (Nat.le_of_ble_eq_true rfl)) .nil)))) (Nat.le_of_ble_eq_true rfl),
  (PySem.W.mg_of X G al_put_sums).trans (PySem.W.mg_of X G a40).symm,
  PySem.W.mg_of X G a_BadSum,
  ⟨⟨I_BadSum, _, fun_mk (st := (inS 9 0)) l_BadSum cc_BadSum k_BadSum, i_BadSum, ty_BadSum, (fun_mk (st := (inS 9 0)) l_BadSum cc_BadSum k_BadSum).binds (fun _ _ _ _ _ _ us hl => match us, hl with | [_, _], _ => rfl)⟩, ⟨⟨_, _, _, _, _, _, _, _, _, _, _, _, _, _, _, cl_BadSum, ve_BadSum⟩, sa_BadSum, ex_BadSum, tc_BadSum, kc_BadSum⟩, (by intro f hf; simp only [List.mem_cons, List.mem_nil_iff, or_false] at hf; rcases hf with rfl <;> assumption), ⟨xa_BadSum, xg_BadSum, ex_BadSum, xh_BadSum⟩⟩,
  PySem.W.mg_of X G a_BadDraft,
  ⟨⟨I_BadDraft, _, fun_mk (st := (inS 12 0)) l_BadDraft cc_BadDraft k_BadDraft, i_BadDraft, ty_BadDraft, (fun_mk (st := (inS 12 0)) l_BadDraft cc_BadDraft k_BadDraft).binds (fun _ _ _ _ _ _ us hl => match us, hl with | [_, _], _ => rfl)⟩, ⟨⟨_, _, _, _, _, _, _, _, _, _, _, _, _, _, _, cl_BadDraft, ve_BadDraft⟩, sa_BadDraft, ex_BadDraft, tc_BadDraft, kc_BadDraft⟩, (by intro f hf; simp only [List.mem_cons, List.mem_nil_iff, or_false] at hf; rcases hf with rfl <;> assumption), ⟨xa_BadDraft, xg_BadDraft, ex_BadDraft, xh_BadDraft⟩⟩,
  PySem.W.mg_of X G a_NoName,
  ⟨⟨I_NoName, _, fun_mk (st := (inS 11 0)) l_NoName cc_NoName k_NoName, i_NoName, ty_NoName, (fun_mk (st := (inS 11 0)) l_NoName cc_NoName k_NoName).binds (fun _ _ _ _ _ _ us hl => match us, hl with | [_, _], _ => rfl)⟩, ⟨⟨_, _, _, _, _, _, _, _, _, _, _, _, _, _, _, cl_NoName, ve_NoName⟩, sa_NoName, ex_NoName, tc_NoName, kc_NoName⟩, (by intro f hf; simp only [List.mem_cons, List.mem_nil_iff, or_false] at hf; rcases hf with rfl <;> assumption), ⟨xa_NoName, xg_NoName, ex_NoName, xh_NoName⟩⟩,
  PySem.W.mg_of X G a_BadChoice,
  ⟨⟨I_BadChoice, _, fun_mk (st := (inS 13 0)) l_BadChoice cc_BadChoice k_BadChoice, i_BadChoice, ty_BadChoice, (fun_mk (st := (inS 13 0)) l_BadChoice cc_BadChoice k_BadChoice).binds (fun _ _ _ _ _ _ us hl => match us, hl with | [_, _], _ => rfl)⟩, ⟨⟨_, _, _, _, _, _, _, _, _, _, _, _, _, _, _, cl_BadChoice, ve_BadChoice⟩, sa_BadChoice, ex_BadChoice, tc_BadChoice, kc_BadChoice⟩, (by intro f hf; simp only [List.mem_cons, List.mem_nil_iff, or_false] at hf; rcases hf with rfl <;> assumption), ⟨xa_BadChoice, xg_BadChoice, ex_BadChoice, xh_BadChoice⟩⟩,
  PySem.W.mg_of X G a_TooLong,
  ⟨⟨I_TooLong, _, fun_mk (st := (inS 15 0)) l_TooLong cc_TooLong k_TooLong, i_TooLong, ty_TooLong, (fun_mk (st := (inS 15 0)) l_TooLong cc_TooLong k_TooLong).binds (fun _ _ _ _ _ _ us hl => match us, hl with | [_, _], _ => rfl)⟩, ⟨⟨_, _, _, _, _, _, _, _, _, _, _, _, _, _, _, cl_TooLong, ve_TooLong⟩, sa_TooLong, ex_TooLong, tc_TooLong, kc_TooLong⟩, (by intro f hf; simp only [List.mem_cons, List.mem_nil_iff, or_false] at hf; rcases hf with rfl <;> assumption), ⟨xa_TooLong, xg_TooLong, ex_TooLong, xh_TooLong⟩⟩,
  PySem.W.mg_of X G a_BadField,
  ⟨⟨I_BadField, _, fun_mk (st := (inS 10 0)) l_BadField cc_BadField k_BadField, i_BadField, ty_BadField, (fun_mk (st := (inS 10 0)) l_BadField cc_BadField k_BadField).binds (fun _ _ _ _ _ _ us hl => match us, hl with | [_, _], _ => rfl)⟩, ⟨⟨_, _, _, _, _, _, _, _, _, _, _, _, _, _, _, cl_BadField, ve_BadField⟩, sa_BadField, ex_BadField, tc_BadField, kc_BadField⟩, (by intro f hf; simp only [List.mem_cons, List.mem_nil_iff, or_false] at hf; rcases hf with rfl <;> assumption), ⟨xa_BadField, xg_BadField, ex_BadField, xh_BadField⟩⟩,
  (by
    intro c hc y hy
    simp only [excs, List.mem_cons, List.mem_nil_iff, or_false] at hc hy
    rcases hc with rfl | rfl | rfl | rfl | rfl | rfl <;> rcases hy with rfl | rfl | rfl
    · exact exm_mk cl_NoName ex_NoName tc_NoName m_BadSum_NoName
    · exact exm_mk cl_BadChoice ex_BadChoice tc_BadChoice m_BadSum_BadChoice
    · exact exm_mk cl_TooLong ex_TooLong tc_TooLong m_BadSum_TooLong
    · exact exm_mk cl_NoName ex_NoName tc_NoName m_BadDraft_NoName
    · exact exm_mk cl_BadChoice ex_BadChoice tc_BadChoice m_BadDraft_BadChoice
    · exact exm_mk cl_TooLong ex_TooLong tc_TooLong m_BadDraft_TooLong
    · exact exm_mk cl_NoName ex_NoName tc_NoName m_NoName_NoName
    · exact exm_mk cl_BadChoice ex_BadChoice tc_BadChoice m_NoName_BadChoice
    · exact exm_mk cl_TooLong ex_TooLong tc_TooLong m_NoName_TooLong
    · exact exm_mk cl_NoName ex_NoName tc_NoName m_BadChoice_NoName
    · exact exm_mk cl_BadChoice ex_BadChoice tc_BadChoice m_BadChoice_BadChoice
    · exact exm_mk cl_TooLong ex_TooLong tc_TooLong m_BadChoice_TooLong
    · exact exm_mk cl_NoName ex_NoName tc_NoName m_TooLong_NoName
    · exact exm_mk cl_BadChoice ex_BadChoice tc_BadChoice m_TooLong_BadChoice
    · exact exm_mk cl_TooLong ex_TooLong tc_TooLong m_TooLong_TooLong
    · exact exm_mk cl_NoName ex_NoName tc_NoName m_BadField_NoName
    · exact exm_mk cl_BadChoice ex_BadChoice tc_BadChoice m_BadField_BadChoice
    · exact exm_mk cl_TooLong ex_TooLong tc_TooLong m_BadField_TooLong),
  (by
    intro y hy
    simp only [List.mem_cons, List.mem_nil_iff, or_false] at hy
    rcases hy with rfl | rfl | rfl
    · exact ⟨PySem.W.mg_of X G a_NoName, by decide +kernel, by decide, ⟨xa_NoName, xg_NoName, ex_NoName, xh_NoName⟩, (by intro f hf; simp only [List.mem_cons, List.mem_nil_iff, or_false] at hf; rcases hf with rfl <;> assumption), by decide⟩
    · exact ⟨PySem.W.mg_of X G a_BadChoice, by decide +kernel, by decide, ⟨xa_BadChoice, xg_BadChoice, ex_BadChoice, xh_BadChoice⟩, (by intro f hf; simp only [List.mem_cons, List.mem_nil_iff, or_false] at hf; rcases hf with rfl <;> assumption), by decide⟩
    · exact ⟨PySem.W.mg_of X G a_TooLong, by decide +kernel, by decide, ⟨xa_TooLong, xg_TooLong, ex_TooLong, xh_TooLong⟩, (by intro f hf; simp only [List.mem_cons, List.mem_nil_iff, or_false] at hf; rcases hf with rfl <;> assumption), by decide⟩)⟩
end P

namespace P
open PySem PySem.Spec PyProof.Rows L2 DL LamX
def tbOf (c2 P2 : Addr) : Str → Addr × Addr := fun _ => (c2, P2)
theorem law_at {w : World} {K : PySem.W.Frag} {h : Heap} {mg : Str → Option Value} {cls : Str → Addr} {fa f c2 P2 : Addr} {oc : Value} {od an : Option Addr} {osl : Array (Option Value)} {kV doc pm ct : Value}
    (X : K.In h) (G : h.Ns mainGlobals mg) (T : Txt K mg cls) (hfa : mg "law" = some (.ref fa)) (a : PySem.W.nsIn K mainGlobals "law" = some (some (.ref f)))
    (lk : K.lookup f = some ⟨oc, od, .func (PySem.W.fnOf "law" "law" (defArgs (topS 61)) (defBody (topS 61)) (defScope (topS 61)) .none kV doc pm an (.ref c2) ct), osl⟩) (hc : PySem.W.codeIn K (.ref c2) "law" = true)
    (t2 : h.get? P2 = some (PySem.W.tabObj #[])) (n2 : K.lookup P2 = none) (h2 : PySem.W.codeHdIn K c2 P2 = true) (hl : ∀ ns : List Int, ns.length ≤ 63 → F_law [.scr ns] = .ok (.bl true)) :
    LawAtS PySem.Challenge.rw_loadanywhere_k58_coded_words w K (L2.CX Pr w) 10 63 "_law_script" mg fa h := by
  have e := hfa.symm.trans (PySem.W.mg_of X G a)
  cases e
  have e1 : tbOf c2 P2 "law" = (c2, P2) := rfl
  refine ⟨PySem.W.fnOf "law" "law" (defArgs (topS 61)) (defBody (topS 61)) (defScope (topS 61)) .none kV doc pm an (.ref c2) ct, [(c2, P2)], spT K cls (tabL (tbOf c2 P2)) F_law, ?_, ?_, ?_, fun s v => .of_eq rfl, fun H a ns hn _ hT hS => ?_, fun base kb nb tb => ?_⟩
  · intro p hp
    rw [List.mem_singleton] at hp
    subst hp
    exact t2
  · intro p hp
    rw [List.mem_singleton] at hp
    subst hp
    exact n2
  · intro p hp
    rw [List.mem_singleton] at hp
    subst hp
    exact PySem.W.codeHd_of_K X h2
  · refine spT_law (fun p hp => ?_) hS (hl ns hn)
    simp only [tabL, List.mem_cons, List.mem_nil_iff, or_false] at hp
    subst hp
    exact hT (c2, P2) (by simp)
  · have B : TxtB K base mg (tbOf c2 P2) := by
      refine ⟨tb (c2, P2) (by simp), fun P n p hp hP hn => ?_⟩
      simp only [tabL, List.mem_cons, List.mem_nil_iff, or_false] at hp hn
      subst hp
      exact (Prod.mk.inj hn).2.symm
    have b := body_law (w := w) (base := base) T B
    rw [e1] at b
    exact fnT1 N_law ["_law_script"] M_law 1 _ 9 rfl rfl lk hc sc_law b
end P

namespace P
open PySem PyProof.Rows L2 DL
/-! ### rows -/
inductive Row where
  | w (l : List (D × D))
  | e (m : Int)
  | b (c l : Str) (x : Int)
  | lb (l : Str)
def Row.d : Row → D
  | .w l => .tup [.str "words", .lst (l.map (·.1))]
  | .e m => .tup [.str "even", .int m]
  | .b c l x => .tup [.str "branch", .str c, .str l, .int x]
  | .lb l => .tup [.str "label", .str l]
def Row.p : Row → D
  | .w l => .tup [.str "words", .tup (l.map (·.2))]
  | .e m => .tup [.str "even", .int m]
  | .b c l x => .tup [.str "branch", .str c, .str l, .int x]
  | .lb l => .tup [.str "label", .str l]
def Row.isB : Row → Bool
  | .b _ _ _ => true
  | _ => false
def Row.isL : Row → Bool
  | .lb _ => true
  | _ => false
def Row.name : Row → Str
  | .b _ l _ => l
  | .lb l => l
  | _ => ""
/-- how wide a row is -/
def Row.size (o : Int) (far : Bool) : Row → Int
  | .w l => l.length
  | .e m => (m - o % m) % m
  | .b _ _ _ => if far then 2 else 1
  | .lb _ => 0
def Row.good : Row → Prop
  | .e m => 0 < m
  | _ => True
def scan (f : Int → Bool) : List Row → Int → Int → List Int
  | [], _, _ => []
  | r :: rs, i, o => (o + r.size o (f i)) :: scan f rs (i + 1) (o + r.size o (f i))
def iL (c : List Int) : List D := c.map .int
def begins (rs : List Row) (c : List Int) : List Int := 0 :: scan (fun i => c.contains i) rs 0 0
/-- a choice: a list or a tuple -/
def InC (cd : D) (c : List Int) : Prop := cd = .lst (iL c) ∨ cd = .tup (iL c)
@[simp] theorem gEq_words_words : gEq (.str "words") (.str "words") = some (.bl true) := by kernel_rfl
@[simp] theorem gEq_words_even : gEq (.str "words") (.str "even") = some (.bl false) := by kernel_rfl
@[simp] theorem gEq_words_branch : gEq (.str "words") (.str "branch") = some (.bl false) := by kernel_rfl
@[simp] theorem gEq_words_label : gEq (.str "words") (.str "label") = some (.bl false) := by kernel_rfl
@[simp] theorem gEq_even_words : gEq (.str "even") (.str "words") = some (.bl false) := by kernel_rfl
@[simp] theorem gEq_even_even : gEq (.str "even") (.str "even") = some (.bl true) := by kernel_rfl
@[simp] theorem gEq_even_branch : gEq (.str "even") (.str "branch") = some (.bl false) := by kernel_rfl
@[simp] theorem gEq_even_label : gEq (.str "even") (.str "label") = some (.bl false) := by kernel_rfl
@[simp] theorem gEq_branch_words : gEq (.str "branch") (.str "words") = some (.bl false) := by kernel_rfl
@[simp] theorem gEq_branch_even : gEq (.str "branch") (.str "even") = some (.bl false) := by kernel_rfl
@[simp] theorem gEq_branch_branch : gEq (.str "branch") (.str "branch") = some (.bl true) := by kernel_rfl
@[simp] theorem gEq_branch_label : gEq (.str "branch") (.str "label") = some (.bl false) := by kernel_rfl
@[simp] theorem gEq_label_words : gEq (.str "label") (.str "words") = some (.bl false) := by kernel_rfl
@[simp] theorem gEq_label_even : gEq (.str "label") (.str "even") = some (.bl false) := by kernel_rfl
@[simp] theorem gEq_label_branch : gEq (.str "label") (.str "branch") = some (.bl false) := by kernel_rfl
@[simp] theorem gEq_label_label : gEq (.str "label") (.str "label") = some (.bl true) := by kernel_rfl
@[simp] theorem gNe_words_words : gNe (.str "words") (.str "words") = some (.bl false) := by kernel_rfl
@[simp] theorem gNe_words_even : gNe (.str "words") (.str "even") = some (.bl true) := by kernel_rfl
@[simp] theorem gNe_words_branch : gNe (.str "words") (.str "branch") = some (.bl true) := by kernel_rfl
@[simp] theorem gNe_words_label : gNe (.str "words") (.str "label") = some (.bl true) := by kernel_rfl
@[simp] theorem gNe_even_words : gNe (.str "even") (.str "words") = some (.bl true) := by kernel_rfl
@[simp] theorem gNe_even_even : gNe (.str "even") (.str "even") = some (.bl false) := by kernel_rfl
@[simp] theorem gNe_even_branch : gNe (.str "even") (.str "branch") = some (.bl true) := by kernel_rfl
@[simp] theorem gNe_even_label : gNe (.str "even") (.str "label") = some (.bl true) := by kernel_rfl
@[simp] theorem gNe_branch_words : gNe (.str "branch") (.str "words") = some (.bl true) := by kernel_rfl
@[simp] theorem gNe_branch_even : gNe (.str "branch") (.str "even") = some (.bl true) := by kernel_rfl
@[simp] theorem gNe_branch_branch : gNe (.str "branch") (.str "branch") = some (.bl false) := by kernel_rfl
@[simp] theorem gNe_branch_label : gNe (.str "branch") (.str "label") = some (.bl true) := by kernel_rfl
@[simp] theorem gNe_label_words : gNe (.str "label") (.str "words") = some (.bl true) := by kernel_rfl
@[simp] theorem gNe_label_even : gNe (.str "label") (.str "even") = some (.bl true) := by kernel_rfl
@[simp] theorem gNe_label_branch : gNe (.str "label") (.str "branch") = some (.bl true) := by kernel_rfl
@[simp] theorem gNe_label_label : gNe (.str "label") (.str "label") = some (.bl false) := by kernel_rfl
theorem canI (c : List Int) : PyData.canLayAll0 (toPs (iL c)) = true := canAll_map fun d hd => by
  obtain ⟨i, _, rfl⟩ := List.mem_map.mp hd; rfl
theorem depI (c : List Int) : PyData.depthAll (toPs (iL c)) ≤ 1 := by
  induction c with
  | nil => exact Nat.zero_le _
  | cons i c ih => simp only [iL, List.map_cons, toPs, PyData.depthAll, toP, PyData.depth] at ih ⊢; omega
theorem okI_l (c : List Int) : okEq (.lst (iL c)) = true := by
  have h1 := canI c
  have h2 := depI c
  simp only [okEq, SeqAt.shaped, toP, PyData.canLay0, PyData.depth, h1, Bool.true_and, decide_eq_true_eq]
  omega
theorem okI_t (c : List Int) : okEq (.tup (iL c)) = true := by
  have h1 := canI c
  have h2 := depI c
  simp only [okEq, SeqAt.shaped, toP, PyData.canLay0, PyData.depth, h1, Bool.true_and, decide_eq_true_eq]
  omega
theorem okI_i (i : Int) : okEq (.int i) = true := rfl
theorem anyI (c : List Int) (i : Int) : ((iL c).any fun z => eqB z (.int i)) = c.contains i := by
  induction c with
  | nil => rfl
  | cons j c ih =>
    rw [List.contains_cons, ← ih]
    simp only [iL, List.map_cons, List.any_cons, eqB_int]
    rw [show (j == i) = (i == j) by rw [Bool.beq_comm]]
theorem inI {cd : D} {c : List Int} (h : InC cd c) (i : Int) : gInG (.int i) cd = some (.bl (c.contains i)) := by
  rcases h with rfl | rfl
  · show gIn (.int i) (.lst (iL c)) = _
    simp only [gIn, itemsD, okI_l, okI_i, Bool.and_self, if_true, anyI]
  · show gIn (.int i) (.tup (iL c)) = _
    simp only [gIn, itemsD, okI_t, okI_i, Bool.and_self, if_true, anyI]
theorem notInI {cd : D} {c : List Int} (h : InC cd c) (i : Int) : gNotInG (.int i) cd = some (.bl (!c.contains i)) := by
  rcases h with rfl | rfl
  · show gNotIn (.int i) (.lst (iL c)) = _
    simp only [gNotIn, itemsD, okI_l, okI_i, Bool.and_self, if_true, anyI]
  · show gNotIn (.int i) (.tup (iL c)) = _
    simp only [gNotIn, itemsD, okI_t, okI_i, Bool.and_self, if_true, anyI]
@[simp] theorem atI_last {α : Type} {l : List α} {x : α} : atI (l ++ [x]) (-1) = some x := by
  unfold atI ixN
  rw [if_neg (by omega), if_pos (by simp; omega)]
  simp only [Option.bind_some, List.length_append, List.length_singleton]
  rw [show (-1 + ((l.length + 1 : Nat) : Int)).toNat = l.length by omega]
  simp
/-! ### begins, the law's -/
theorem lb_turn {R cd : D} {c : List Int} (hc : InC cd c) {r : Row} (hr : r.good) {i o : Int} {pre : List Int} {z : Sl} (hl : pre.length < 100) :
    ∃ z', M_law_begins_b1 [.dat R, .dat cd, .own false (iL (pre ++ [o])), .dat (.int i), .dat r.d, z] = .nx [.dat R, .dat cd, .own false (iL (pre ++ [o, o + r.size o (c.contains i)])), .dat (.int i), .dat r.d, z'] := by
  have hl2 : pre.length + 1 < 16777216 := by omega
  have e : iL (pre ++ [o]) = iL pre ++ [.int o] := by simp [iL]
  have e2 : ∀ x, iL pre ++ [.int o] ++ [.int x] = iL (pre ++ [o, x]) := by simp [iL]
  have e3 : (iL pre ++ [D.int o]).length < 16777216 := by simp [iL]; omega
  refine ⟨.dat (.int (r.size o (c.contains i))), ?_⟩
  cases r with
  | w ws => simp [M_law_begins_b1, Row.d, Row.size, mIxO, sApp, e, e2, iL, hl2]
  | e m =>
    have hm : 0 < m := hr
    simp [M_law_begins_b1, Row.d, Row.size, mIxO, sApp, e, e2, iL, hm, hl2]
  | b cc l x => 
    by_cases h : i ∈ c <;> simp [M_law_begins_b1, Row.d, Row.size, mIxO, sApp, e, e2, iL, inI hc, gInt, hl2, h]
  | lb l => simp [M_law_begins_b1, Row.d, Row.size, mIxO, sApp, e, e2, iL, hl2]
theorem lb_loop {R cd : D} {c : List Int} (hc : InC cd c) : ∀ (rs : List Row) (i o : Int) (pre : List Int) (x y z : Sl), (∀ r ∈ rs, r.good) → pre.length + rs.length < 100 →
    ∃ x' y' z', forL (gTup2 2 (gsCons (gN 3) (gsCons (gN 4) gsNil))) M_law_begins_b1 (enumF i (rs.map Row.d)) [.dat R, .dat cd, .own false (iL (pre ++ [o])), x, y, z] =
      .nx [.dat R, .dat cd, .own false (iL (pre ++ o :: scan (fun i => c.contains i) rs i o)), x', y', z']
  | [], i, o, pre, x, y, z, _, _ => ⟨x, y, z, rfl⟩
  | r :: rs, i, o, pre, x, y, z, hg, hl => by
    simp only [List.length_cons] at hl
    obtain ⟨z', e⟩ := lb_turn (R := R) hc (hg r (by simp)) (i := i) (o := o) (pre := pre) (z := z) (by omega)
    obtain ⟨x2, y2, z2, e2⟩ := lb_loop (R := R) hc rs (i + 1) (o + r.size o (c.contains i)) (pre ++ [o]) (.dat (.int i)) (.dat r.d) z' (fun r hr => hg r (by simp [hr])) (by simp; omega)
    refine ⟨x2, y2, z2, ?_⟩
    simp only [List.map_cons, enumF, forL, ev_gTup2_t, List.length_cons, List.length_nil, ev_gsCons, ev_gN, ev_gsNil, Option.bind_some, List.set_cons_succ, List.set_cons_zero, if_true]
    simp only [List.append_assoc, List.cons_append, List.nil_append] at e e2
    simp only [e, e2, scan]
theorem law_begins_ok {rs : List Row} {cd : D} {c : List Int} (hc : InC cd c) (hg : ∀ r ∈ rs, r.good) (hl : rs.length < 90) : F_law_begins [.lst (rs.map Row.d), cd] = .ok (.lst (iL (begins rs c))) := by
  obtain ⟨x', y', z', e⟩ := lb_loop (R := .lst (rs.map Row.d)) hc rs 0 0 [] .un .un .un hg (by simp; omega)
  simp only [List.nil_append] at e
  have e0 : iL [(0 : Int)] = [.int 0] := rfl
  rw [e0] at e
  simp [F_law_begins, runF, M_law_begins, sAsgO, mShort, short, mIt, enumOf, enumD_F, e, sFrz, begins]
end P

namespace P
open PySem PyProof.Rows L2 DL
def zipI : Int → List Row → List (Int × Row)
  | _, [] => []
  | i, r :: rs => (i, r) :: zipI (i + 1) rs
def spots (rs : List Row) : List (Str × Int) := ((zipI 0 rs).filter (·.2.isL)).map fun p => (p.2.name, p.1)
def spK (l : List (Str × Int)) : List (Key × D) := l.map fun p => (.inr p.1, .int p.2)
def dr (rs : List Row) : D := .obj "Draft" [("draft_rows", .lst (rs.map Row.p)), ("labels", .dct false ((spK (spots rs)).map kd))]
@[simp] theorem fld_rows {rs : List Row} : gFld "Draft" "draft_rows" (dr rs) = some (.lst (rs.map Row.p)) := by kernel_rfl
@[simp] theorem fld_labels {rs : List Row} : gFld "Draft" "labels" (dr rs) = some (.dct false ((spK (spots rs)).map kd)) := by kernel_rfl
theorem obj_of {rs : List Row} {m : Str} (h1 : ("draft_rows" == m) = false := by kernel_rfl) (h2 : ("labels" == m) = false := by kernel_rfl) : DL.isObj "Draft" m (dr rs) = true := by
  have a1 : (m == ("draft_rows" : Str)) = false := by rw [Bool.beq_comm]; exact h1
  have a2 : (m == ("labels" : Str)) = false := by rw [Bool.beq_comm]; exact h2
  simp [DL.isObj, dr, List.lookup, a1, a2]
theorem up_mod {o m : Int} (h : 0 < m) : -o % m = (m - o % m) % m := by
  rw [Int.emod_eq_emod_iff_emod_sub_eq_zero]
  have : -o - (m - o % m) = m * (-(o / m) - 1) := by
    have := Int.emod_add_mul_ediv o m
    rw [Int.mul_sub, Int.mul_neg, Int.mul_one]
    omega
  rw [this]
  exact Int.mul_emod_right _ _
theorem length_of_ok {rs : List Row} {cd : D} {c : List Int} (hc : InC cd c) {n : Nat} {r : Row} (hr : rs[n]? = some r) (hg : r.good) (o : Int) : F_Draft_length_of [dr rs, .int n, .int o, cd] = .ok (.int (r.size o (c.contains (n : Int)))) := by
  have e : atI (rs.map Row.p) (n : Int) = some r.p := by rw [DL.atI_nat, List.getElem?_map, hr]; rfl
  cases r with
  | w ws => simp [F_Draft_length_of, runF, M_Draft_length_of, e, Row.p, Row.size]
  | e m =>
    have hm : 0 < m := hg
    simp only [Row.size]
    rw [← up_mod hm]
    simp [F_Draft_length_of, runF, M_Draft_length_of, e, Row.p, hm]
  | b cc l x => by_cases h : (n : Int) ∈ c <;> simp [F_Draft_length_of, runF, M_Draft_length_of, e, Row.p, Row.size, inI hc, h]
  | lb l => simp [F_Draft_length_of, runF, M_Draft_length_of, e, Row.p, Row.size]
def rngI (k n : Nat) : List D := (List.range' k n).map fun (i : Nat) => D.int i
theorem rng_I (n : Nat) : rngD 0 n = rngI 0 n := by
  unfold rngD rngI
  rw [List.range_eq_range']
  simp
theorem rngI_succ (k n : Nat) : rngI k (n + 1) = .int k :: rngI (k + 1) n := by
  simp [rngI, List.range'_succ]
theorem ev_rng {a : MA} {r r1 : DEnv} {n : Nat} (h : a r = .ok [.int n] r1) (hn : n < 1000) : mRng1 a r = .ok (rngI 0 n) r1 := by
  have h1 : rngOk (n : Int) = true := Nat.ble_eq_true_of_le (by omega)
  simp only [mRng1, h]
  rw [if_pos h1, Int.toNat_natCast, rng_I]
theorem db_loop {rs : List Row} {cd : D} {c : List Int} (hc : InC cd c) (hg : ∀ r ∈ rs, r.good) : ∀ (suf : List Row) (k : Nat) (o : Int) (pre : List Int) (x : Sl), rs.drop k = suf → pre.length + suf.length < 100 →
    ∃ x', forL (gN 3) M_Draft_begins_b1 (rngI k suf.length) [.dat (dr rs), .dat cd, .own false (iL (pre ++ [o])), x] =
      .nx [.dat (dr rs), .dat cd, .own false (iL (pre ++ o :: scan (fun i => c.contains i) suf k o)), x']
  | [], k, o, pre, x, _, _ => ⟨x, rfl⟩
  | r :: suf, k, o, pre, x, hs, hl => by
    simp only [List.length_cons] at hl
    have hr : rs[k]? = some r := by
      have := congrArg (fun l => l[0]?) hs
      simpa using this
    have hs' : rs.drop (k + 1) = suf := by
      rw [← List.drop_drop, hs]; rfl
    have hgr : r.good := hg r (List.mem_of_getElem? hr)
    have e := length_of_ok hc hr hgr o
    obtain ⟨x2, e2⟩ := db_loop hc hg suf (k + 1) (o + r.size o (c.contains (k : Int))) (pre ++ [o]) (.dat (.int k)) hs' (by simp; omega)
    refine ⟨x2, ?_⟩
    have e3 : iL (pre ++ [o]) = iL pre ++ [.int o] := by simp [iL]
    have hl2 : pre.length + 1 < 16777216 := by omega
    have ob : DL.isObj "Draft" "length_of" (dr rs) = true := obj_of
    have b : M_Draft_begins_b1 [.dat (dr rs), .dat cd, .own false (iL (pre ++ [o])), .dat (.int k)] = .nx [.dat (dr rs), .dat cd, .own false (iL (pre ++ [o] ++ [o + r.size o (c.contains (k : Int))])), .dat (.int k)] := by
      simp [M_Draft_begins_b1, sApp, mIxO, e3, ob, e, hl2, iL]
    rw [List.length_cons, rngI_succ]
    simp only [forL, ev_gN, List.set_cons_succ, List.set_cons_zero, b, e2, scan]
    simp
theorem begins_ok {rs : List Row} {cd : D} {c : List Int} (hc : InC cd c) (hg : ∀ r ∈ rs, r.good) (hl : rs.length < 90) : F_Draft_begins [dr rs, cd] = .ok (.lst (iL (begins rs c))) := by
  obtain ⟨x', e⟩ := db_loop hc hg rs 0 0 [] .un rfl (by simp; omega)
  have h2 : aCons (mAgs (b1 gLen) (aCons (mUn (gFld "Draft" "draft_rows") (mV 0)) aNil)) aNil [.dat (dr rs), .dat cd, .own false [.int 0], .un] = .ok [.int rs.length] [.dat (dr rs), .dat cd, .own false [.int 0], .un] := by
    simp
  exact run_rt rfl rfl (seq_nx rfl (seq_nx (for_nx (ev_rng h2 (by omega)) e) rfl))
end P

namespace P
open PySem PyProof.Rows L2 DL
theorem enum_zip (f : Row → D) : ∀ (rs : List Row) (i : Int), enumF i (rs.map f) = (zipI i rs).map fun p => .tup [.int p.1, f p.2]
  | [], _ => rfl
  | r :: rs, i => by simp only [List.map_cons, enumF, zipI, enum_zip f rs]
theorem zipI_len : ∀ (rs : List Row) (i : Int), (zipI i rs).length = rs.length
  | [], _ => rfl
  | r :: rs, i => by simp only [zipI, List.length_cons, zipI_len rs]
theorem zipI_mem : ∀ {rs : List Row} {i : Int} {p : Int × Row}, p ∈ zipI i rs → ∃ n : Nat, p.1 = i + n ∧ rs[n]? = some p.2
  | [], i, p, h => by cases h
  | r :: rs, i, p, h => by
    rcases List.mem_cons.mp h with rfl | h
    · exact ⟨0, by simp, rfl⟩
    · obtain ⟨n, e1, e2⟩ := zipI_mem h
      exact ⟨n + 1, by rw [e1]; omega, e2⟩
theorem zipI_ge {rs : List Row} {i : Int} {p : Int × Row} (h : p ∈ zipI i rs) : i ≤ p.1 := by
  obtain ⟨n, e, _⟩ := zipI_mem h; omega
theorem zipI_sorted : ∀ (rs : List Row) (i : Int), (zipI i rs).Pairwise fun a b => a.1 < b.1
  | [], _ => .nil
  | r :: rs, i => .cons (fun p hp => by have := zipI_ge hp; show i < p.1; omega) (zipI_sorted rs (i + 1))
def brs (rs : List Row) : List Int := ((zipI 0 rs).filter (·.2.isB)).map (·.1)
theorem brs_sorted (rs : List Row) : (brs rs).Pairwise (· < ·) := by
  unfold brs
  rw [List.pairwise_map]
  exact (zipI_sorted rs 0).filter _
theorem brs_len (rs : List Row) : (brs rs).length ≤ rs.length := by
  unfold brs
  rw [List.length_map, ← zipI_len rs 0]
  exact List.length_filter_le _ _
theorem brs_mem {rs : List Row} {k : Int} (h : k ∈ brs rs) : ∃ (n : Nat) (c l : Str) (x : Int), k = n ∧ rs[n]? = some (.b c l x) := by
  obtain ⟨⟨i, r⟩, hp, rfl⟩ := List.mem_map.mp h
  obtain ⟨hp, hb⟩ := List.mem_filter.mp hp
  obtain ⟨n, e1, e2⟩ := zipI_mem hp
  cases r with
  | b c l x => exact ⟨n, c, l, x, by simpa using e1, e2⟩
  | _ => cases hb
def lookS (l : List (Str × Int)) (s : Str) : Option Int := match l with
  | [] => none
  | p :: l => if p.1 = s then some p.2 else lookS l s
theorem lkp_S (l : List (Str × Int)) (s : Str) : lkp (.inr s) (spK l) = (lookS l s).map .int := by
  induction l with
  | nil => rfl
  | cons p l ih =>
    simp only [spK, List.map_cons, lkp, lookS] at ih ⊢
    by_cases h : p.1 = s
    · simp [h]
    · simp only [h, if_false]
      rw [if_neg (fun e => h (Sum.inr.inj e))]
      exact ih
def nameAt (rs : List Row) (k : Int) : Str := (rs[k.toNat]?.getD (.lb "")).name
def leads (rs : List Row) (k : Int) : Bool := (lookS (spots rs) (nameAt rs k)).isNone
def spotOf (rs : List Row) (k : Int) : Int := (lookS (spots rs) (nameAt rs k)).getD 0
def outs (rs : List Row) : List Int := (brs rs).filter fun k => leads rs k
def opens (rs : List Row) : List Int := (brs rs).filter fun k => !leads rs k
def wayOf (rs : List Row) (c : List Int) (k : Int) : Int := (begins rs c).getD (spotOf rs k).toNat 0 - (begins rs c).getD k.toNat 0
def far2 (w : Int) : Bool := decide (w < -256) || decide (255 < w)
def long (rs : List Row) (c : List Int) : List Int := (opens rs).filter fun k => !c.contains k && far2 (wayOf rs c k)
/-- the rows that the law makes -/
structure Good (rs : List Row) : Prop where
  good : ∀ r ∈ rs, r.good
  len : rs.length < 90
  nod : ((spots rs).map (·.1)).Nodup
/-! ### branches -/
theorem law_branches_ok {rs : List Row} (hl : rs.length < 90) : F_law_branches [.lst (rs.map Row.d)] = .ok (.lst (iL (brs rs))) := by
  have e : mLc (mIt enumOf (aCons (mV 0) aNil)) (gTup2 2 (gsCons (gN 1) (gsCons (gN 2) gsNil))) (mOp gEq (mOp gSub (mV 2) (mC (.int 0))) (mC (.str "branch"))) (mV 1) [1, 2] [.dat (.lst (rs.map Row.d)), .un, .un] = .ok (((zipI 0 rs).filter (·.2.isB)).map fun p => .int p.1) [.dat (.lst (rs.map Row.d)), .un, .un] := by
    refine mLc_map (l := zipI 0 rs) (fun p => .tup [.int p.1, p.2.d]) (·.2.isB) (fun p => .int p.1) (by simp [mIt, enumOf, enumD_F, enum_zip]) rfl (by rw [zipI_len]; omega) fun p _ => ?_
    refine ⟨[.dat (.lst (rs.map Row.d)), .dat (.int p.1), .dat p.2.d], by simp, by simp, ?_, by simp⟩
    obtain ⟨i, r⟩ := p
    cases r <;> simp [Row.d, Row.isB]
  have : iL (brs rs) = ((zipI 0 rs).filter (·.2.isB)).map fun p => .int p.1 := by simp [iL, brs, Function.comp_def]
  rw [this]
  simp [F_law_branches, runF, M_law_branches, e]
theorem branches_ok {rs : List Row} (hl : rs.length < 90) : F_Draft_branches [dr rs] = .ok (.tup (iL (brs rs))) := by
  have e : mLc (mIt enumOf (aCons (mUn (gFld "Draft" "draft_rows") (mV 0)) aNil)) (gTup2 2 (gsCons (gN 1) (gsCons (gN 2) gsNil))) (mOp gEq (mOp gSub (mV 2) (mC (.int 0))) (mC (.str "branch"))) (mV 1) [1, 2] [.dat (dr rs), .un, .un] = .ok (((zipI 0 rs).filter (·.2.isB)).map fun p => .int p.1) [.dat (dr rs), .un, .un] := by
    refine mLc_map (l := zipI 0 rs) (fun p => .tup [.int p.1, p.2.p]) (·.2.isB) (fun p => .int p.1) (by simp [mIt, enumOf, enumD_F, enum_zip]) rfl (by rw [zipI_len]; omega) fun p _ => ?_
    refine ⟨[.dat (dr rs), .dat (.int p.1), .dat p.2.p], by simp, by simp, ?_, by simp⟩
    obtain ⟨i, r⟩ := p
    cases r <;> simp [Row.p, Row.isB]
  have : iL (brs rs) = ((zipI 0 rs).filter (·.2.isB)).map fun p => .int p.1 := by simp [iL, brs, Function.comp_def]
  rw [this]
  simp [F_Draft_branches, runF, M_Draft_branches, e, gTupOf]
theorem law_spots_ok {rs : List Row} (g : Good rs) : F_law_spots [.lst (rs.map Row.d)] = .ok (.dct false ((spK (spots rs)).map kd)) := by
  have hl := g.len
  have e : mLc (mIt enumOf (aCons (mV 0) aNil)) (gTup2 2 (gsCons (gN 1) (gsCons (gN 2) gsNil))) (mOp gEq (mOp gSub (mV 2) (mC (.int 0))) (mC (.str "label"))) (mAgs gTupD (aCons (mOp gSub (mV 2) (mC (.int 1))) (aCons (mV 1) aNil))) [1, 2] [.dat (.lst (rs.map Row.d)), .un, .un] = .ok (((zipI 0 rs).filter (·.2.isL)).map fun p => .tup [.str p.2.name, .int p.1]) [.dat (.lst (rs.map Row.d)), .un, .un] := by
    refine mLc_map (l := zipI 0 rs) (fun p => .tup [.int p.1, p.2.d]) (·.2.isL) (fun p => .tup [.str p.2.name, .int p.1]) (by simp [mIt, enumOf, enumD_F, enum_zip]) rfl (by rw [zipI_len]; omega) fun p _ => ?_
    refine ⟨[.dat (.lst (rs.map Row.d)), .dat (.int p.1), .dat p.2.d], by simp, by simp, ?_, ?_⟩
    · obtain ⟨i, r⟩ := p
      cases r <;> simp [Row.d, Row.isL]
    · obtain ⟨i, r⟩ := p
      cases r <;> simp [Row.d, Row.isL, Row.name]
  have q := dictOf_map (fun p : Int × Row => (.inr p.2.name : Key)) (fun p => .int p.1) ((zipI 0 rs).filter (·.2.isL)) (by
    have := g.nod
    unfold spots at this
    rw [List.map_map] at this
    have z : ((zipI 0 rs).filter (·.2.isL)).map (fun p : Int × Row => (.inr p.2.name : Key)) = (((zipI 0 rs).filter (·.2.isL)).map ((·.1) ∘ fun p => (p.2.name, p.1))).map Sum.inr := by simp [Function.comp_def]
    rw [z]
    exact List.Pairwise.map _ (fun a b h e => h (Sum.inr.inj e)) this)
  have z : ((zipI 0 rs).filter (·.2.isL)).map (fun x : Int × Row => ((.inr x.2.name : Key), D.int x.1)) = spK (spots rs) := by simp [spK, spots, Function.comp_def]
  rw [z] at q
  have q2 : gDictOf (.lst (((zipI 0 rs).filter (·.2.isL)).map fun p => .tup [.str p.2.name, .int p.1])) = some (.dct false ((spK (spots rs)).map kd)) := q
  simp [F_law_spots, runF, M_law_spots, e, q2]
end P

namespace P
open PySem PyProof.Rows L2 DL
theorem at_br {rs : List Row} {k : Int} (h : k ∈ brs rs) : ∃ c x, atI (rs.map Row.d) k = some (.tup [.str "branch", .str c, .str (nameAt rs k), .int x]) ∧ atI (rs.map Row.p) k = some (.tup [.str "branch", .str c, .str (nameAt rs k), .int x]) := by
  obtain ⟨n, c, l, x, rfl, e⟩ := brs_mem h
  have en : nameAt rs (n : Int) = l := by simp [nameAt, e, Row.name]
  refine ⟨c, x, ?_, ?_⟩
  · rw [DL.atI_nat, List.getElem?_map, e, en]; rfl
  · rw [DL.atI_nat, List.getElem?_map, e, en]; rfl
theorem in_sp (l : List (Str × Int)) (s : Str) : gInG (.str s) (.dct false ((spK l).map kd)) = some (.bl (lookS l s).isSome) := by
  show (lookT false ((spK l).map kd) (keyD (.inr s))).map (fun o => D.bl o.isSome) = _
  rw [lookT_kd, lkp_S]
  cases lookS l s <;> rfl
theorem notin_sp (l : List (Str × Int)) (s : Str) : gNotInG (.str s) (.dct false ((spK l).map kd)) = some (.bl (lookS l s).isNone) := by
  show (lookT false ((spK l).map kd) (keyD (.inr s))).map (fun o => D.bl (!o.isSome)) = _
  rw [lookT_kd, lkp_S]
  cases lookS l s <;> rfl
theorem get_sp {l : List (Str × Int)} {s : Str} {i : Int} (h : lookS l s = some i) : gDGet (.dct false ((spK l).map kd)) (.str s) = some (.int i) := by
  show (lookT false ((spK l).map kd) (keyD (.inr s))).bind id = _
  rw [lookT_kd, lkp_S, h]
  rfl
theorem lookS_mem : ∀ {l : List (Str × Int)} {s : Str} {i : Int}, lookS l s = some i → (s, i) ∈ l
  | p :: l, s, i, h => by
    unfold lookS at h
    split at h
    · rename_i e; cases h; rw [← e]; simp
    · exact List.mem_cons_of_mem _ (lookS_mem h)
theorem spot_nat {rs : List Row} {s : Str} {i : Int} (h : lookS (spots rs) s = some i) : ∃ n : Nat, i = n ∧ n < rs.length := by
  obtain ⟨⟨j, r⟩, hp, e⟩ := List.mem_map.mp (lookS_mem h)
  obtain ⟨n, e1, e2⟩ := zipI_mem (List.mem_filter.mp hp).1
  cases e
  refine ⟨n, by simpa using e1, ?_⟩
  have := List.getElem?_eq_some_iff.mp e2
  exact this.1
theorem scan_len (f : Int → Bool) : ∀ (rs : List Row) (i o : Int), (scan f rs i o).length = rs.length
  | [], _, _ => rfl
  | r :: rs, i, o => by simp only [scan, List.length_cons, scan_len f rs]
theorem begins_len (rs : List Row) (c : List Int) : (begins rs c).length = rs.length + 1 := by simp [begins, scan_len]
theorem at_beg {rs : List Row} {c : List Int} {n : Nat} (h : n ≤ rs.length) : atI (iL (begins rs c)) (n : Int) = some (.int ((begins rs c).getD n 0)) := by
  rw [DL.atI_nat, iL, List.getElem?_map]
  have : n < (begins rs c).length := by rw [begins_len]; omega
  simp [this]
theorem opens_brs {rs : List Row} {k : Int} (h : k ∈ opens rs) : k ∈ brs rs := (List.mem_filter.mp h).1
theorem opens_look {rs : List Row} {k : Int} (h : k ∈ opens rs) : lookS (spots rs) (nameAt rs k) = some (spotOf rs k) := by
  have := (List.mem_filter.mp h).2
  unfold leads at this
  unfold spotOf
  cases e : lookS (spots rs) (nameAt rs k) with
  | none => rw [e] at this; cases this
  | some i => rfl
theorem way_ok {rs : List Row} {c : List Int} {k : Int} (h : k ∈ opens rs) : ∃ a b : Int, atI (iL (begins rs c)) (spotOf rs k) = some (.int a) ∧ atI (iL (begins rs c)) k = some (.int b) ∧ wayOf rs c k = a - b := by
  obtain ⟨m, e1, h1⟩ := spot_nat (opens_look h)
  obtain ⟨n, cc, l, x, rfl, e2⟩ := brs_mem (opens_brs h)
  have h2 := (List.getElem?_eq_some_iff.mp e2).1
  refine ⟨_, _, by rw [e1]; exact at_beg (by omega), at_beg (by omega), ?_⟩
  unfold wayOf
  rw [e1]
  simp
/-! ### outs and open ones -/
theorem law_outs_ok {rs : List Row} (g : Good rs) : F_law_outs [.lst (rs.map Row.d)] = .ok (.lst (iL (outs rs))) := by
  have hl := g.len
  have e : mLc (mIter (mCall F_law_branches (aCons (mV 0) aNil))) (gN 2) (mOp gNotInG (mOp gSub (mOp gSub (mV 0) (mV 2)) (mC (.int 2))) (mV 1)) (mV 2) [2] [.dat (.lst (rs.map Row.d)), .dat (.dct false ((spK (spots rs)).map kd)), .un] =
      .ok (((brs rs).filter fun k => leads rs k).map .int) [.dat (.lst (rs.map Row.d)), .dat (.dct false ((spK (spots rs)).map kd)), .un] := by
    refine mLc_map (l := brs rs) .int (fun k => leads rs k) .int (by simp [law_branches_ok hl]; rfl) rfl (by have := brs_len rs; omega) fun k hk => ?_
    obtain ⟨c, x, e1, _⟩ := at_br hk
    exact ⟨[.dat (.lst (rs.map Row.d)), .dat (.dct false ((spK (spots rs)).map kd)), .dat (.int k)], by simp, by simp, by simp [e1, notin_sp, leads], by simp⟩
  simp [F_law_outs, runF, M_law_outs, law_spots_ok g, e, outs, iL]
theorem leads_ok {rs : List Row} {k : Int} (h : k ∈ brs rs) : F_Draft_leads_out [dr rs, .int k] = .ok (.bl (leads rs k)) := by
  obtain ⟨c, x, _, e1⟩ := at_br h
  simp [F_Draft_leads_out, runF, M_Draft_leads_out, e1, notin_sp, leads]
theorem ob1 {rs : List Row} : DL.isObj "Draft" "branches" (dr rs) = true := obj_of
theorem ob2 {rs : List Row} : DL.isObj "Draft" "leads_out" (dr rs) = true := obj_of
theorem ob3 {rs : List Row} : DL.isObj "Draft" "open_ones" (dr rs) = true := obj_of
theorem ob4 {rs : List Row} : DL.isObj "Draft" "begins" (dr rs) = true := obj_of
theorem ob5 {rs : List Row} : DL.isObj "Draft" "ways" (dr rs) = true := obj_of
theorem ob6 {rs : List Row} : DL.isObj "Draft" "too_long" (dr rs) = true := obj_of
theorem ob7 {rs : List Row} : DL.isObj "Draft" "out" (dr rs) = true := obj_of
theorem out_ok {rs : List Row} (g : Good rs) : F_Draft_out [dr rs] = .ok (.tup (iL (outs rs))) := by
  have hl := g.len
  have e : mLc (mIter (mMeth "Draft" "branches" F_Draft_branches (mV 0) aNil)) (gN 1) (mMeth "Draft" "leads_out" F_Draft_leads_out (mV 0) (aCons (mV 1) aNil)) (mV 1) [1] [.dat (dr rs), .un] = .ok (((brs rs).filter fun k => leads rs k).map .int) [.dat (dr rs), .un] := by
    refine mLc_map (l := brs rs) .int (fun k => leads rs k) .int (by simp [branches_ok hl, ob1]; rfl) rfl (by have := brs_len rs; omega) fun k hk => ?_
    exact ⟨[.dat (dr rs), .dat (.int k)], by simp, by simp, by simp [leads_ok hk, ob2], by simp⟩
  simp [F_Draft_out, runF, M_Draft_out, e, outs, iL, gTupOf]
theorem open_ok {rs : List Row} (g : Good rs) : F_Draft_open_ones [dr rs] = .ok (.tup (iL (opens rs))) := by
  have hl := g.len
  have e : mLc (mIter (mMeth "Draft" "branches" F_Draft_branches (mV 0) aNil)) (gN 1) (mNot (mMeth "Draft" "leads_out" F_Draft_leads_out (mV 0) (aCons (mV 1) aNil))) (mV 1) [1] [.dat (dr rs), .un] = .ok (((brs rs).filter fun k => !leads rs k).map .int) [.dat (dr rs), .un] := by
    refine mLc_map (l := brs rs) .int (fun k => !leads rs k) .int (by simp [branches_ok hl, ob1]; rfl) rfl (by have := brs_len rs; omega) fun k hk => ?_
    exact ⟨[.dat (dr rs), .dat (.int k)], by simp, by simp, by simp [leads_ok hk, ob2], by simp⟩
  simp [F_Draft_open_ones, runF, M_Draft_open_ones, e, opens, iL, gTupOf]
/-! ### ways -/
def waysK (rs : List Row) (c : List Int) : List (Key × D) := (opens rs).map fun k => (.inl k, .int (wayOf rs c k))
theorem opens_nodup (rs : List Row) : ((opens rs).map fun k => (.inl k : Key)).Nodup := by
  have : (opens rs).Pairwise (· < ·) := (brs_sorted rs).filter _
  exact List.Pairwise.map _ (fun a b (h : a < b) e => by cases e; omega) this
theorem opens_len (rs : List Row) : (opens rs).length ≤ rs.length := Nat.le_trans (List.length_filter_le _ _) (brs_len rs)
theorem law_ways_ok {rs : List Row} (g : Good rs) {cd : D} {c : List Int} (hc : InC cd c) : F_law_ways [.lst (rs.map Row.d), cd] = .ok (.dct false ((waysK rs c).map kd)) := by
  have hl := g.len
  let B : D := .lst (iL (begins rs c))
  let S : D := .dct false ((spK (spots rs)).map kd)
  have e1 : mLc (mIter (mCall F_law_branches (aCons (mV 0) aNil))) (gN 5) (mOp gInG (mOp gSub (mOp gSub (mV 0) (mV 5)) (mC (.int 2))) (mV 4)) (mV 5) [5] [.dat (.lst (rs.map Row.d)), .dat cd, .un, .dat B, .dat S, .un] = .ok (((brs rs).filter fun k => !leads rs k).map .int) [.dat (.lst (rs.map Row.d)), .dat cd, .un, .dat B, .dat S, .un] := by
    refine mLc_map (l := brs rs) .int (fun k => !leads rs k) .int (by simp [law_branches_ok hl]; rfl) rfl (by have := brs_len rs; omega) fun k hk => ?_
    obtain ⟨cc, x, e1, _⟩ := at_br hk
    refine ⟨[.dat (.lst (rs.map Row.d)), .dat cd, .un, .dat B, .dat S, .dat (.int k)], by simp, by simp, ?_, by simp⟩
    simp only [S]
    simp [e1, in_sp, leads]
  have e2 : mLc (mIter (mV 2)) (gN 5) mYes (mAgs gTupD (aCons (mV 5) (aCons (mOp iSub (mOp gSub (mV 3) (mOp gSub (mV 4) (mOp gSub (mOp gSub (mV 0) (mV 5)) (mC (.int 2))))) (mOp gSub (mV 3) (mV 5))) aNil))) [5] [.dat (.lst (rs.map Row.d)), .dat cd, .dat (.lst (iL (opens rs))), .dat B, .dat S, .un] = .ok ((opens rs).map fun k => .tup [.int k, .int (wayOf rs c k)]) [.dat (.lst (rs.map Row.d)), .dat cd, .dat (.lst (iL (opens rs))), .dat B, .dat S, .un] := by
    refine mLc_all (l := opens rs) .int _ (by simp; rfl) rfl (by have := opens_len rs; omega) fun k hk => ?_
    obtain ⟨cc, x, e1, _⟩ := at_br (opens_brs hk)
    obtain ⟨a, b, e3, e4, e5⟩ := way_ok (c := c) hk
    refine ⟨[.dat (.lst (rs.map Row.d)), .dat cd, .dat (.lst (iL (opens rs))), .dat B, .dat S, .dat (.int k)], by simp, by simp, by simp, ?_⟩
    simp [e1, S, B, get_sp (opens_look hk), e3, e4, e5]
  have q : gDictOf (.lst ((opens rs).map fun k => .tup [.int k, .int (wayOf rs c k)])) = some (.dct false ((waysK rs c).map kd)) := dictOf_map (fun k : Int => (.inl k : Key)) (fun k => .int (wayOf rs c k)) (opens rs) (opens_nodup rs)
  have ho : List.map D.int (List.filter (fun k => !leads rs k) (brs rs)) = iL (opens rs) := rfl
  rw [ho] at e1
  simp only [B, S] at e1 e2
  simp [F_law_ways, runF, M_law_ways, law_begins_ok hc g.good g.len, law_spots_ok g, e1, e2, q]
end P

namespace P
open PySem PyProof.Rows L2 DL
theorem keys_ways (rs : List Row) (c : List Int) : ((waysK rs c).map kd).map (·.1) = (opens rs).map .int := by
  simp [waysK, kd, Function.comp_def, keyD]
theorem get_way {rs : List Row} {c : List Int} {k : Int} (h : k ∈ opens rs) : gDGet (.dct false ((waysK rs c).map kd)) (.int k) = some (.int (wayOf rs c k)) := by
  show (lookT false ((waysK rs c).map kd) (keyD (.inl k))).bind id = _
  rw [lookT_kd, waysK, lkp_map (fun k : Int => (.inl k : Key)) (fun k => .int (wayOf rs c k)) (opens rs) k (opens_nodup rs) h]
  rfl
theorem long_len (rs : List Row) (c : List Int) : (long rs c).length ≤ rs.length := Nat.le_trans (List.length_filter_le _ _) (opens_len rs)
theorem law_long_ok {rs : List Row} (g : Good rs) {cd : D} {c : List Int} (hc : InC cd c) : F_law_long [.lst (rs.map Row.d), cd] = .ok (.lst (iL (long rs c))) := by
  let W : D := .dct false ((waysK rs c).map kd)
  have e : mLc (mIter (mV 2)) (gN 3) (mAnd (mOp gNotInG (mV 3) (mV 1)) (mOr (mOp iLt (mOp gSub (mV 2) (mV 3)) (mUn iNeg (mC (.int 256)))) (mOp iGt (mOp gSub (mV 2) (mV 3)) (mC (.int 255))))) (mV 3) [3] [.dat (.lst (rs.map Row.d)), .dat cd, .dat W, .un] =
      .ok (((opens rs).filter fun k => !c.contains k && far2 (wayOf rs c k)).map .int) [.dat (.lst (rs.map Row.d)), .dat cd, .dat W, .un] := by
    refine mLc_map (l := opens rs) .int _ .int (by simp only [ev_mIter, ev_mV, List.getElem?_cons_succ, List.getElem?_cons_zero, W, ev_iter_d, keys_ways]) rfl (by have := opens_len rs; have := g.len; omega) fun k hk => ?_
    refine ⟨[.dat (.lst (rs.map Row.d)), .dat cd, .dat W, .dat (.int k)], by simp, by simp, ?_, by simp⟩
    simp only [W]
    by_cases h : k ∈ c
    · simp [notInI hc, h]
    · by_cases h2 : wayOf rs c k < -256
      · simp [notInI hc, h, get_way hk, h2, far2]
      · by_cases h3 : 255 < wayOf rs c k <;> simp [notInI hc, h, get_way hk, h2, h3, far2]
  have e2 : ((opens rs).filter fun k => !c.contains k && far2 (wayOf rs c k)).map D.int = iL (long rs c) := rfl
  rw [e2] at e
  simp only [W] at e
  simp [F_law_long, runF, M_law_long, law_ways_ok g hc, e]
theorem ways_ok {rs : List Row} (g : Good rs) {cd : D} {c : List Int} (hc : InC cd c) : F_Draft_ways [dr rs, cd] = .ok (.dct false ((waysK rs c).map kd)) := by
  let B : D := .lst (iL (begins rs c))
  have e : mDc (mIter (mMeth "Draft" "open_ones" F_Draft_open_ones (mV 0) aNil)) (gN 3) mYes (mV 3) (mOp iSub (mOp gSub (mV 2) (mOp gSub (mUn (gFld "Draft" "labels") (mV 0)) (mOp gSub (mOp gSub (mUn (gFld "Draft" "draft_rows") (mV 0)) (mV 3)) (mC (.int 2))))) (mOp gSub (mV 2) (mV 3))) [3] [.dat (dr rs), .dat cd, .dat B, .un] =
      .ok (.dct false ((waysK rs c).map kd)) [.dat (dr rs), .dat cd, .dat B, .un] := by
    refine mDc_map (l := opens rs) .int (fun k => .inl k) (fun k => .int (wayOf rs c k)) (by simp [open_ok g, ob3]; rfl) rfl (by have := opens_len rs; have := g.len; omega) (opens_nodup rs) fun k hk => ?_
    obtain ⟨cc, x, _, e1⟩ := at_br (opens_brs hk)
    obtain ⟨a, b, e3, e4, e5⟩ := way_ok (c := c) hk
    refine ⟨[.dat (dr rs), .dat cd, .dat B, .dat (.int k)], by simp, by simp, by simp, by simp [keyD], ?_⟩
    simp [e1, B, get_sp (opens_look hk), e3, e4, e5]
  simp only [B] at e
  simp [F_Draft_ways, runF, M_Draft_ways, begins_ok hc g.good g.len, ob4, e]
theorem too_long_ok {rs : List Row} (g : Good rs) {cd : D} {c : List Int} (hc : InC cd c) : F_Draft_too_long [dr rs, cd] = .ok (.lst (iL (long rs c))) := by
  let W : D := .dct false ((waysK rs c).map kd)
  have e : mLc (mIter (mV 2)) (gN 3) (mAnd (mOp gNotInG (mV 3) (mV 1)) (mNot (mChain iLe iLe (mC c_LOW) (mOp gSub (mV 2) (mV 3)) (mC c_HIGH)))) (mV 3) [3] [.dat (dr rs), .dat cd, .dat W, .un] =
      .ok (((opens rs).filter fun k => !c.contains k && far2 (wayOf rs c k)).map .int) [.dat (dr rs), .dat cd, .dat W, .un] := by
    refine mLc_map (l := opens rs) .int _ .int (by simp only [ev_mIter, ev_mV, List.getElem?_cons_succ, List.getElem?_cons_zero, W, ev_iter_d, keys_ways]) rfl (by have := opens_len rs; have := g.len; omega) fun k hk => ?_
    refine ⟨[.dat (dr rs), .dat cd, .dat W, .dat (.int k)], by simp, by simp, ?_, by simp⟩
    simp only [W]
    by_cases h : k ∈ c
    · simp [notInI hc, h]
    · by_cases h2 : -256 ≤ wayOf rs c k
      · by_cases h3 : wayOf rs c k ≤ 255
        · have h4 : ¬ wayOf rs c k < -256 := by omega
          have h5 : ¬ 255 < wayOf rs c k := by omega
          simp [notInI hc, h, get_way hk, h2, h3, h4, h5, far2]
        · have h5 : 255 < wayOf rs c k := by omega
          simp [notInI hc, h, get_way hk, h2, h3, h5, far2]
      · have h4 : wayOf rs c k < -256 := by omega
        simp [notInI hc, h, get_way hk, h2, h4, far2]
  have e2 : ((opens rs).filter fun k => !c.contains k && far2 (wayOf rs c k)).map D.int = iL (long rs c) := rfl
  rw [e2] at e
  simp only [W] at e
  simp [F_Draft_too_long, runF, M_Draft_too_long, ways_ok g hc, ob5, e]
/-! ### equality with the empty list -/
@[simp] theorem gEq_nil (c : List Int) : gEq (.lst (iL c)) (.lst []) = some (.bl c.isEmpty) := by
  unfold gEq
  rw [okI_l, show okEq (.lst []) = true from rfl]
  cases c <;> rfl
@[simp] theorem gNe_nil (c : List Int) : gNe (.lst (iL c)) (.lst []) = some (.bl (!c.isEmpty)) := by
  unfold gNe
  rw [okI_l, show okEq (.lst []) = true from rfl]
  cases c <;> rfl
/-! ### grown -/
def missing (rs : List Row) (c : List Int) : Nat := ((opens rs).filter fun k => !c.contains k).length
def grow (rs : List Row) : Nat → List Int → List Int
  | 0, c => c
  | n + 1, c => if (long rs c).isEmpty then c else grow rs n (srt (c ++ long rs c))
theorem long_sub {rs : List Row} {c : List Int} {k : Int} (h : k ∈ long rs c) : k ∈ opens rs ∧ k ∉ c := by
  obtain ⟨h1, h2⟩ := List.mem_filter.mp h
  refine ⟨h1, ?_⟩
  simp only [Bool.and_eq_true, Bool.not_eq_true', List.contains_eq_mem, decide_eq_false_iff_not] at h2
  exact h2.1
theorem filter_lt {α : Type} {p q : α → Bool} : ∀ {l : List α} {x : α}, (∀ y, q y = true → p y = true) → x ∈ l → p x = true → q x = false → (l.filter q).length < (l.filter p).length
  | y :: l, x, h, hx, hp, hq => by
    have sub : (l.filter q).length ≤ (l.filter p).length := by
      clear hx
      induction l with
      | nil => simp
      | cons z l ih =>
        simp only [List.filter_cons]
        cases eq : q z with
        | true => rw [h z eq]; simp; exact ih
        | false =>
          cases p z
          · simpa using ih
          · simp; omega
    simp only [List.filter_cons]
    rcases List.mem_cons.mp hx with rfl | hx
    · rw [hp, hq]; simp; omega
    · have ih := filter_lt h hx hp hq
      cases eq : q y with
      | true => rw [h y eq]; simp; exact ih
      | false =>
        cases p y
        · simpa using ih
        · simp; omega
theorem grow_less {rs : List Row} {c : List Int} (h : (long rs c).isEmpty = false) : missing rs (srt (c ++ long rs c)) < missing rs c := by
  obtain ⟨k, hk⟩ : ∃ k, k ∈ long rs c := by
    cases e : long rs c with
    | nil => rw [e] at h; cases h
    | cons k l => exact ⟨k, by simp⟩
  have mem : ∀ y, y ∈ srt (c ++ long rs c) ↔ y ∈ c ∨ y ∈ long rs c := fun y => by rw [(srt_perm _).mem_iff, List.mem_append]
  refine filter_lt (x := k) (fun y hy => ?_) (long_sub hk).1 ?_ ?_
  · simp only [Bool.not_eq_true', List.contains_eq_mem, decide_eq_false_iff_not, mem] at hy ⊢
    exact fun q => hy (.inl q)
  · simp [(long_sub hk).2]
  · simp [mem, hk]
theorem grow_ends {rs : List Row} : ∀ (n : Nat) (c : List Int), missing rs c < n → (long rs (grow rs n c)).isEmpty = true
  | n + 1, c, h => by
    unfold grow
    split
    · assumption
    · rename_i e
      have e : (long rs c).isEmpty = false := by simpa using e
      exact grow_ends n _ (by have := grow_less e; omega)
theorem missing_le (rs : List Row) (c : List Int) : missing rs c ≤ rs.length := Nat.le_trans (List.length_filter_le _ _) (opens_len rs)
theorem filter_split {α : Type} (p q : α → Bool) : ∀ l : List α, (l.filter p).length = (l.filter fun x => p x && q x).length + (l.filter fun x => p x && !q x).length
  | [] => rfl
  | x :: l => by
    have ih := filter_split p q l
    simp only [List.filter_cons]
    cases p x <;> cases q x <;> simp <;> omega
theorem grow_count (rs : List Row) (c : List Int) : (long rs c).length + missing rs (srt (c ++ long rs c)) = missing rs c := by
  have h := filter_split (fun k => !c.contains k) (fun k => far2 (wayOf rs c k)) (opens rs)
  have e : (opens rs).filter (fun k => !(srt (c ++ long rs c)).contains k) = (opens rs).filter (fun k => !c.contains k && !far2 (wayOf rs c k)) := by
    refine List.filter_congr fun k hk => ?_
    have mem : k ∈ srt (c ++ long rs c) ↔ k ∈ c ∨ k ∈ long rs c := by rw [(srt_perm _).mem_iff, List.mem_append]
    have ml : k ∈ long rs c ↔ (k ∉ c ∧ far2 (wayOf rs c k) = true) := by
      unfold long
      rw [List.mem_filter]
      simp [hk]
    by_cases h1 : k ∈ c
    · have : k ∈ srt (c ++ long rs c) := mem.mpr (.inl h1)
      simp [h1, this]
    · by_cases h2 : far2 (wayOf rs c k) = true
      · have : k ∈ srt (c ++ long rs c) := mem.mpr (.inr (ml.mpr ⟨h1, h2⟩))
        simp [h1, h2, this]
      · have : k ∉ srt (c ++ long rs c) := fun z => by
          rcases mem.mp z with z | z
          · exact h1 z
          · exact h2 (ml.mp z).2
        simp [h1, h2, this]
  unfold missing
  rw [e]
  unfold long
  omega
theorem sort_two {c : List Int} {l : List Int} (h : c.length + l.length ≤ 1000) : gSortG (.lst (iL c ++ iL l)) = some (.lst (iL (srt (c ++ l)))) := by
  have := sort_l (c ++ l) (by rw [List.length_append]; exact h)
  rwa [List.map_append] at this
theorem law_grown_while {rs : List Row} (g : Good rs) : ∀ (n : Nat) (c : List Int), missing rs c < n → c.length + missing rs c < 300 →
    whileN (mOp gNe (mCall F_law_long (aCons (mV 0) (aCons (mV 1) aNil))) (mAgs gLstD aNil)) M_law_grown_b1 n [.dat (.lst (rs.map Row.d)), .dat (.lst (iL c))] = .nx [.dat (.lst (rs.map Row.d)), .dat (.lst (iL (grow rs n c)))]
  | n + 1, c, h, hl => by
    have hL := law_long_ok g (cd := .lst (iL c)) (.inl rfl)
    have hc : (mOp gNe (mCall F_law_long (aCons (mV 0) (aCons (mV 1) aNil))) (mAgs gLstD aNil)) [.dat (.lst (rs.map Row.d)), .dat (.lst (iL c))] = .ok (.bl (!(long rs c).isEmpty)) [.dat (.lst (rs.map Row.d)), .dat (.lst (iL c))] := by
      simp [hL]
    unfold grow
    cases e : (long rs c).isEmpty with
    | true => rw [e] at hc; exact while_f hc
    | false =>
      rw [e] at hc
      have less := grow_less e
      have ll := grow_count rs c
      have ls := (srt_perm (c ++ long rs c)).length_eq
      rw [List.length_append] at ls
      have ih := law_grown_while g n (srt (c ++ long rs c)) (by omega) (by omega)
      have so := sort_two (c := c) (l := long rs c) (by omega)
      have lb : (iL c).length + (iL (long rs c)).length ≤ 16777216 := by simp [iL]; omega
      exact while_t hc (by simp [M_law_grown_b1, hL, lb, so]) ih
theorem outs_len (rs : List Row) : (outs rs).length ≤ rs.length := Nat.le_trans (List.length_filter_le _ _) (brs_len rs)
theorem law_grown_ok {rs : List Row} (g : Good rs) : F_law_grown [.lst (rs.map Row.d)] = .ok (.tup (iL (grow rs 1000 (outs rs)))) := by
  have h1 := missing_le rs (outs rs)
  have h2 := outs_len rs
  have h3 := g.len
  exact run_rt rfl rfl (seq_nx (asg_ok (call_ok rfl (law_outs_ok g))) (seq_nx (law_grown_while g 1000 (outs rs) (by omega) (by omega)) rfl))
end P

namespace P
open PySem PyProof.Rows L2 DL
/-! ### draws -/
def Rng (ds zs : List Int) : Prop := ds.length = zs.length ∧ ∀ (i : Nat) d z, ds[i]? = some d → zs[i]? = some z → 0 ≤ d ∧ d < z
theorem Rng.snoc {ds zs : List Int} {d z : Int} (h : Rng ds zs) (h0 : 0 ≤ d) (h1 : d < z) : Rng (ds ++ [d]) (zs ++ [z]) := by
  refine ⟨by simp [h.1], fun i d' z' e1 e2 => ?_⟩
  by_cases q : i < ds.length
  · rw [List.getElem?_append_left q] at e1
    rw [List.getElem?_append_left (by rw [← h.1]; exact q)] at e2
    exact h.2 i d' z' e1 e2
  · rw [List.getElem?_append_right (by omega)] at e1
    rw [List.getElem?_append_right (by rw [← h.1]; omega)] at e2
    rw [← h.1] at e2
    obtain ⟨m, hm⟩ : ∃ m, i - ds.length = m := ⟨_, rfl⟩
    rw [hm] at e1 e2
    cases m with
    | zero => simp at e1 e2; omega
    | succ m => simp at e1
theorem row_great {Z : Sl} : ∀ (zs : List Int) (c : Int) (ds ws : List Int) (a b x y : Sl), (∀ z ∈ zs, 0 < z ∧ z < 1000) → ds.length + zs.length < 1000 → Rng ds ws →
    ∃ c' ds' x', forL (gN 5) M_law_row_b1 (iL zs) [.dat (.int c), Z, .own false (iL ds), a, b, x, y] = .nx [.dat (.int c'), Z, .own false (iL ds'), a, b, x', y] ∧ Rng ds' (ws ++ zs)
  | [], c, ds, ws, a, b, x, y, _, _, h => ⟨c, ds, x, rfl, by simpa using h⟩
  | z :: zs, c, ds, ws, a, b, x, y, hz, hl, h => by
    simp only [List.length_cons] at hl
    obtain ⟨z0, z1⟩ := hz z (by simp)
    have z2 : z < 1073741824 := by omega
    have l1 : (iL ds).length < 16777216 := by simp [iL]; omega
    have e : iL ds ++ [.int (c % z)] = iL (ds ++ [c % z]) := by simp [iL]
    have b1 : M_law_row_b1 [.dat (.int c), Z, .own false (iL ds), a, b, .dat (.int z), y] = .nx [.dat (.int (c / z)), Z, .own false (iL (ds ++ [c % z])), a, b, .dat (.int z), y] := by
      simp [M_law_row_b1, sApp, z0, z2, l1, e]
    obtain ⟨c', ds', x', e2, h2⟩ := row_great (Z := Z) zs (c / z) (ds ++ [c % z]) (ws ++ [z]) a b (.dat (.int z)) y (fun z hz' => hz z (by simp [hz'])) (by simp; omega) (h.snoc (Int.emod_nonneg _ (by omega)) (Int.emod_lt_of_pos _ z0))
    refine ⟨c', ds', x', ?_, by simpa using h2⟩
    simp only [iL, List.map_cons, forL, ev_gN, List.set_cons_succ, List.set_cons_zero]
    simp only [iL] at b1 e2
    rw [b1]
    exact e2
end P

namespace P
open PySem PyProof.Rows L2 DL
theorem row_turn {c s k z : Int} {Zs ds : List D} {x y : Sl} (hs : 0 ≤ s) (hs2 : s < 2147483647) (hk : 0 ≤ k) (hk2 : k < 1000) (hz : atI Zs k = some (.int z)) (z0 : 0 < z) (hl : ds.length < 1000) :
    ∃ d y', M_law_row_b2 [.dat (.int c), .dat (.lst Zs), .own false ds, .dat (.int s), .dat (.int k), x, y] = .nx [.dat (.int c), .dat (.lst Zs), .own false (ds ++ [.int d]), .dat (.int s), .dat (.int k), x, y'] ∧ 0 ≤ d ∧ d < z := by
  have hp : (s + 7919 * k + 104729).natAbs < 2 ^ 64 := by omega
  have l1 : ds.length < 16777216 := by omega
  refine ⟨((((s + 7919 * k + 104729) ^ 5 % 2147483647 + k) * 40692) % 2147483629) % z, .dat (.int ((s + 7919 * k + 104729) ^ 5 % 2147483647 + k)), ?_, Int.emod_nonneg _ (by omega), Int.emod_lt_of_pos _ z0⟩
  simp [M_law_row_b2, sApp, hp, hz, z0, l1]
theorem row_small {c s : Int} {Zs : List Int} (hs : 0 ≤ s) (hs2 : s < 2147483647) (hz : ∀ z ∈ Zs, 0 < z ∧ z < 1000) : ∀ (suf : List Int) (k : Nat) (ds ws : List Int) (w x y : Sl), Zs.drop k = suf → k + suf.length < 1000 → ds.length + suf.length < 1000 → Rng ds ws →
    ∃ ds' w' y', forL (gN 4) M_law_row_b2 (rngI k suf.length) [.dat (.int c), .dat (.lst (iL Zs)), .own false (iL ds), .dat (.int s), w, x, y] = .nx [.dat (.int c), .dat (.lst (iL Zs)), .own false (iL ds'), .dat (.int s), w', x, y'] ∧ Rng ds' (ws ++ suf)
  | [], k, ds, ws, w, x, y, _, _, _, h => ⟨ds, w, y, rfl, by simpa using h⟩
  | z :: suf, k, ds, ws, w, x, y, he, hk, hl, h => by
    simp only [List.length_cons] at hl hk
    have hr : Zs[k]? = some z := by
      have := congrArg (fun l => l[0]?) he
      simpa using this
    have hs' : Zs.drop (k + 1) = suf := by rw [← List.drop_drop, he]; rfl
    obtain ⟨z0, z1⟩ := hz z (List.mem_of_getElem? hr)
    have ha : atI (iL Zs) (k : Int) = some (.int z) := by rw [DL.atI_nat, iL, List.getElem?_map, hr]; rfl
    obtain ⟨d, y', e, d0, d1⟩ := row_turn (c := c) (s := s) (k := (k : Int)) (ds := iL ds) (x := x) (y := y) hs hs2 (by omega) (by omega) ha z0 (by simp [iL]; omega)
    have e' : iL ds ++ [.int d] = iL (ds ++ [d]) := by simp [iL]
    rw [e'] at e
    obtain ⟨ds', w', y2, e2, h2⟩ := row_small (c := c) hs hs2 hz suf (k + 1) (ds ++ [d]) (ws ++ [z]) (.dat (.int k)) x y' hs' (by omega) (by simp; omega) (h.snoc d0 d1)
    refine ⟨ds', w', y2, ?_, by simpa using h2⟩
    rw [List.length_cons, rngI_succ]
    simp only [forL, ev_gN, List.set_cons_succ, List.set_cons_zero]
    rw [e]
    exact e2
theorem law_row_ok (c : Int) {Zs : List Int} (hz : ∀ z ∈ Zs, 0 < z ∧ z < 1000) (hl : Zs.length < 900) : ∃ ds, F_law_row [.int c, .lst (iL Zs)] = .ok (.lst (iL ds)) ∧ Rng ds Zs := by
  have r0 : Rng [] [] := ⟨rfl, fun i d z h => by simp at h⟩
  let R : DEnv := [.dat (.int c), .dat (.lst (iL Zs)), .own false [], .un, .un, .un, .un]
  have t : (mOp iGe (mV 0) (mOp iPow (mC (.int 10)) (mC (.int 18)))) R = .ok (.bl (decide ((10 : Int) ^ 18 ≤ c))) R := by
    simp [R]
  by_cases h : (10 : Int) ^ 18 ≤ c
  · rw [decide_eq_true h] at t
    obtain ⟨c', ds', x', e, hr⟩ := row_great (Z := .dat (.lst (iL Zs))) Zs c [] [] .un .un .un .un hz (by simp; omega) r0
    refine ⟨ds', ?_, by simpa using hr⟩
    refine run_rt rfl rfl (r' := [.dat (.int c'), .dat (.lst (iL Zs)), .dat (.lst (iL ds')), .un, .un, x', .un]) (seq_nx (r1 := R) rfl ?_)
    have e3 : sIf (mOp iGe (mV 0) (mOp iPow (mC (.int 10)) (mC (.int 18)))) (sSeq (sFor (mIter (mV 1)) (gN 5) M_law_row_b1) (sFrz 2 (sRet (mV 2)))) sNil R = .rt (.lst (iL ds')) [.dat (.int c'), .dat (.lst (iL Zs)), .dat (.lst (iL ds')), .un, .un, x', .un] :=
      if_t t (seq_nx (for_nx (iter_ok rfl rfl) e) rfl)
    simp only [sSeq, e3]
  · rw [decide_eq_false h] at t
    obtain ⟨ds', w', y', e, hr⟩ := row_small (c := c) (s := c % 2147483647) (Int.emod_nonneg _ (by omega)) (Int.emod_lt_of_pos _ (by omega)) hz Zs 0 [] [] .un .un .un rfl (by omega) (by simp; omega) r0
    refine ⟨ds', ?_, by simpa using hr⟩
    refine run_rt rfl rfl (seq_nx (r1 := R) rfl (seq_nx (if_f t rfl) (seq_nx (r1 := [.dat (.int c), .dat (.lst (iL Zs)), .own false [], .dat (.int (c % 2147483647)), .un, .un, .un]) ?_ (seq_nx (for_nx (ev_rng (n := Zs.length) ?_ (by omega)) e) rfl))))
    · simp [R]
    · simp [iL]
end P

namespace P
open PySem PyProof.Rows L2 DL
/-! ### the draft -/
def SZ : List Int := 8 :: ((List.replicate 10 [8, 12, 5, 3]).flatten ++ List.replicate 4 11)
theorem SZ_at (k : Nat) (h : k < 10) : SZ[1 + 4 * k]? = some 8 ∧ SZ[2 + 4 * k]? = some 12 ∧ SZ[3 + 4 * k]? = some 5 ∧ SZ[4 + 4 * k]? = some 3 := by
  have : ∀ k, k < 10 → SZ[1 + 4 * k]? = some 8 ∧ SZ[2 + 4 * k]? = some 12 ∧ SZ[3 + 4 * k]? = some 5 ∧ SZ[4 + 4 * k]? = some 3 := by decide
  exact this k h
def us (kind name : Str) (m : Int) : D := .tup [.tup [.str kind, .str name], .int m]
def sm (n : Int) (l : List D) : D := .tup [.int n, .tup l]
/-- a word as it is passed, and as it is told -/
inductive Wd : D → D → Prop
  | i (k : Int) : Wd (.int k) (sm k [])
  | s0 (k : Int) : Wd (sm k []) (sm k [])
  | s1 : Wd (sm 5 [us "name" "la" 1]) (sm 5 [us "name" "la" 1])
  | s2 : Wd (sm 0 [us "name" "lb" 2, us "name" "lc" (-1)]) (sm 0 [us "name" "lb" 2, us "name" "lc" (-1)])
  | s3 : Wd (sm (-3) [us "name" "away" 1, us "name" "la" (-1)]) (sm (-3) [us "name" "away" 1, us "name" "la" (-1)])
  | s4 (k : Int) : Wd (sm (2048 * k) [us "piece" "m" (-1), us "name" "ld" 1]) (sm (2048 * k) [us "piece" "m" (-1), us "name" "ld" 1])
  | s5 : Wd (sm 7 [us "name" "la" 1, us "name" "la" (-1)]) (sm 7 [])
  | s6 : Wd (sm 1 [us "piece" "other" 3, us "name" "lb" 1]) (sm 1 [us "piece" "other" 3, us "name" "lb" 1])
def intRow (k : Int) (n : Nat) : List (D × D) := List.replicate n (.int k, sm k [])
theorem intRow_d (k : Int) (n : Nat) : (Row.w (intRow k n)).d = .tup [.str "words", .lst (List.replicate n (.int k))] := by simp [Row.d, intRow]
def okR (ev : Bool) : Row → Prop
  | .w l => l.length ≤ 255 ∧ ∀ q ∈ l, Wd q.1 q.2
  | .e m => ev = true ∧ 1 ≤ m ∧ m ≤ 64
  | .b c l x => c ∈ (["ask", "go", "call"] : List Str) ∧ l ∈ (["la", "lb", "lc", "ld", "away"] : List Str) ∧ (l = ("away" : Str) ∨ x = 0)
  | .lb _ => False
theorem pick12 {s : Int} (h0 : 0 ≤ s) (h1 : s < 12) : ∃ n : Nat, gSub (.lst [.int 0, .int 1, .int 2, .int 3, .int 40, .int 120, .int 127, .int 128, .int 250, .int 253, .int 254, .int 255]) (.int s) = some (.int n) ∧ n ≤ 255 := by
  have : s = 0 ∨ s = 1 ∨ s = 2 ∨ s = 3 ∨ s = 4 ∨ s = 5 ∨ s = 6 ∨ s = 7 ∨ s = 8 ∨ s = 9 ∨ s = 10 ∨ s = 11 := by omega
  rcases this with rfl | rfl | rfl | rfl | rfl | rfl | rfl | rfl | rfl | rfl | rfl | rfl
  · exact ⟨0, rfl, by decide⟩
  · exact ⟨1, rfl, by decide⟩
  · exact ⟨2, rfl, by decide⟩
  · exact ⟨3, rfl, by decide⟩
  · exact ⟨40, rfl, by decide⟩
  · exact ⟨120, rfl, by decide⟩
  · exact ⟨127, rfl, by decide⟩
  · exact ⟨128, rfl, by decide⟩
  · exact ⟨250, rfl, by decide⟩
  · exact ⟨253, rfl, by decide⟩
  · exact ⟨254, rfl, by decide⟩
  · exact ⟨255, rfl, by decide⟩
theorem pickE {s : Int} (h0 : 0 ≤ s) (h1 : s < 12) : ∃ m : Int, gSub (.lst [.int 1, .int 2, .int 3, .int 4, .int 5, .int 8, .int 16, .int 32, .int 40, .int 64, .int 7, .int 63]) (.int s) = some (.int m) ∧ 1 ≤ m ∧ m ≤ 64 := by
  have : s = 0 ∨ s = 1 ∨ s = 2 ∨ s = 3 ∨ s = 4 ∨ s = 5 ∨ s = 6 ∨ s = 7 ∨ s = 8 ∨ s = 9 ∨ s = 10 ∨ s = 11 := by omega
  rcases this with rfl | rfl | rfl | rfl | rfl | rfl | rfl | rfl | rfl | rfl | rfl | rfl <;> exact ⟨_, rfl, by decide, by decide⟩
theorem pickC {s : Int} (h0 : 0 ≤ s) (h1 : s < 3) : ∃ c : Str, gSub (.lst [.str "ask", .str "go", .str "call"]) (.int s) = some (.str c) ∧ c ∈ (["ask", "go", "call"] : List Str) := by
  have : s = 0 ∨ s = 1 ∨ s = 2 := by omega
  rcases this with rfl | rfl | rfl <;> exact ⟨_, rfl, by simp⟩
theorem pickX {s : Int} (h0 : 0 ≤ s) (h1 : s < 3) : ∃ x : Int, gSub (.lst [.int 0, .int 5, .int (-3)]) (.int s) = some (.int x) := by
  have : s = 0 ∨ s = 1 ∨ s = 2 := by omega
  rcases this with rfl | rfl | rfl <;> exact ⟨_, rfl⟩
theorem pickN {s : Int} (h0 : 0 ≤ s) (h1 : s < 5) : ∃ l : Str, gSub (.lst [.str "la", .str "lb", .str "lc", .str "ld", .str "away"]) (.int s) = some (.str l) ∧ l ∈ (["la", "lb", "lc", "ld", "away"] : List Str) ∧ (s = 4 → l = ("away" : Str)) := by
  have : s = 0 ∨ s = 1 ∨ s = 2 ∨ s = 3 ∨ s = 4 := by omega
  rcases this with rfl | rfl | rfl | rfl | rfl <;> exact ⟨_, rfl, by simp, by simp⟩
theorem rep_one (k : Int) (n : Nat) (h : n ≤ 255) : lRep (.lst [.int k]) (.int n) = some (.lst (List.replicate n (.int k))) := by
  have c1 : -(2 ^ 63) ≤ (n : Int) ∧ (n : Int) < 2 ^ 63 ∧ [D.int k].length * (n : Int).toNat ≤ 16777216 := by
    refine ⟨by omega, by omega, ?_⟩
    simp; omega
  simp only [lRep]
  rw [if_pos c1, Int.toNat_natCast, List.flatten_replicate_singleton]
end P

namespace P
open PySem PyProof.Rows L2 DL
theorem four {ds : List Int} {n : Nat} (h : n + 4 ≤ ds.length) : ∃ a b c d, ds[n]? = some a ∧ ds[n + 1]? = some b ∧ ds[n + 2]? = some c ∧ ds[n + 3]? = some d ∧ (ds.drop n).take 4 = [a, b, c, d] := by
  have h0 : n < ds.length := by omega
  have h1 : n + 1 < ds.length := by omega
  have h2 : n + 2 < ds.length := by omega
  have h3 : n + 3 < ds.length := by omega
  refine ⟨ds[n], ds[n + 1], ds[n + 2], ds[n + 3], by simp [h0], by simp [h1], by simp [h2], by simp [h3], ?_⟩
  rw [List.drop_eq_getElem_cons h0, List.drop_eq_getElem_cons h1, List.drop_eq_getElem_cons h2, List.drop_eq_getElem_cons h3]
  rfl
theorem cut4 {ds : List Int} {n m : Nat} {a b c d : Int} (hm : m = n + 4) (h : m ≤ ds.length) (e : (ds.drop n).take 4 = [a, b, c, d]) : DL.cutD (iL ds) (some (n : Int)) (some (m : Int)) = iL [a, b, c, d] := by
  have hl : (iL ds).length = ds.length := by simp [iL]
  unfold DL.cutD
  rw [HT.sIx_nat, HT.sIx_nat, hl, Nat.min_eq_left h, Nat.min_eq_left (by omega : n ≤ ds.length), hm, Nat.add_sub_cancel_left, ← e]
  simp [iL, List.map_take, List.map_drop]
theorem draft_sl {E0 : DEnv} {ds : List Int} {k : Nat} {a b c d : Int} (hk : 1 + 4 * k + 4 ≤ ds.length) (e3 : E0[3]? = some (.dat (.int k))) (e4 : E0[4]? = some (.dat (.lst (iL ds)))) (e : (ds.drop (1 + 4 * k)).take 4 = [a, b, c, d]) :
    (mSl (mV 4) (mInt (mOp gAdd (mC (.int 1)) (mOp iMul (mC (.int 4)) (mV 3)))) (mInt (mOp gAdd (mC (.int 5)) (mOp iMul (mC (.int 4)) (mV 3))))) E0 = .ok (.lst (iL [a, b, c, d])) E0 := by
  have m4 : ∀ x : Int, iMul (.int 4) (.int x) = some (.int (4 * x)) := fun x => by simp
  have i1 : (mInt (mOp gAdd (mC (.int 1)) (mOp iMul (mC (.int 4)) (mV 3)))) E0 = .ok (.int ((1 + 4 * k : Nat) : Int)) E0 := by
    have : (mOp gAdd (mC (.int 1)) (mOp iMul (mC (.int 4)) (mV 3))) E0 = .ok (.int (1 + 4 * (k : Int))) E0 := op_ok rfl (op_ok rfl (by simp only [ev_mV, e3]) (m4 _)) rfl
    simp only [mInt, this]
    rw [show (1 + 4 * (k : Int)) = ((1 + 4 * k : Nat) : Int) by omega]
  have i2 : (mInt (mOp gAdd (mC (.int 5)) (mOp iMul (mC (.int 4)) (mV 3)))) E0 = .ok (.int ((5 + 4 * k : Nat) : Int)) E0 := by
    have : (mOp gAdd (mC (.int 5)) (mOp iMul (mC (.int 4)) (mV 3))) E0 = .ok (.int (5 + 4 * (k : Int))) E0 := op_ok rfl (op_ok rfl (by simp only [ev_mV, e3]) (m4 _)) rfl
    simp only [mInt, this]
    rw [show (5 + 4 * (k : Int)) = ((5 + 4 * k : Nat) : Int) by omega]
  simp only [mSl, ev_mV, e4, ev_bind_ok, i1, partD, i2, gSl, cut4 (n := 1 + 4 * k) (m := 5 + 4 * k) (by omega) (by omega) e, ev_opt_some]
end P

namespace P
open PySem PyProof.Rows L2 DL
theorem draft_turn {ce mo : D} {ev : Bool} {k : Int} {ds : D} {rows : List Row} {wide a b c d : Int} {x7 x8 x13 : Sl} (ha : 0 ≤ a) (hb : 0 ≤ b) (hb2 : b < 12) (hc : 0 ≤ c) (hc2 : c < 5) (hd : 0 ≤ d) (hd2 : d < 3) (hl : rows.length < 1000) :
    ∃ r w' x', okR ev r ∧ (sIf (mAnd (mOp iLt (mV 9) (mC (.int 3))) (mOp iLt (mV 6) (mC (.int 6)))) (sSeq (sAsg 6 (mOp gAdd (mV 6) (mC (.int 1))))
  (sApp 5 (mAgs gTupD (aCons (mC (.str "words")) (aCons (mOp lRep (mAgs gLstD (aCons (mV 3) aNil)) (mOp gSub (mAgs gLstD (aCons (mC (.int 0)) (aCons (mC (.int 1)) (aCons (mC (.int 2)) (aCons (mC (.int 3)) (aCons (mC (.int 40)) (aCons (mC (.int 120)) (aCons (mC (.int 127)) (aCons (mC (.int 128)) (aCons (mC (.int 250)) (aCons (mC (.int 253)) (aCons (mC (.int 254)) (aCons (mC (.int 255)) aNil))))))))))))) (mV 10))) aNil))))) (sIf (mAnd (mOp gEq (mV 9) (mC (.int 3))) (mV 2)) (sApp 5 (mAgs gTupD (aCons (mC (.str "even")) (aCons (mOp gSub (mAgs gLstD (aCons (mC (.int 1)) (aCons (mC (.int 2)) (aCons (mC (.int 3)) (aCons (mC (.int 4)) (aCons (mC (.int 5)) (aCons (mC (.int 8)) (aCons (mC (.int 16)) (aCons (mC (.int 32)) (aCons (mC (.int 40)) (aCons (mC (.int 64)) (aCons (mC (.int 7)) (aCons (mC (.int 63)) aNil))))))))))))) (mV 10)) aNil)))) (sSeq (sAsg 13 (mIf (mOp gEq (mV 11) (mC (.int 4))) (mOp gSub (mAgs gLstD (aCons (mC (.int 0)) (aCons (mC (.int 5)) (aCons (mUn iNeg (mC (.int 3))) aNil)))) (mV 12)) (mC (.int 0))))
  (sApp 5 (mAgs gTupD (aCons (mC (.str "branch")) (aCons (mOp gSub (mAgs gLstD (aCons (mC (.str "ask")) (aCons (mC (.str "go")) (aCons (mC (.str "call")) aNil)))) (mV 12)) (aCons (mOp gSub (mAgs gLstD (aCons (mC (.str "la")) (aCons (mC (.str "lb")) (aCons (mC (.str "lc")) (aCons (mC (.str "ld")) (aCons (mC (.str "away")) aNil)))))) (mV 11)) (aCons (mV 13) aNil))))))))) [.dat ce, .dat mo, .dat (.bl ev), .dat (.int k), .dat ds, .own false (rows.map Row.d), .dat (.int wide), x7, x8, .dat (.int a), .dat (.int b), .dat (.int c), .dat (.int d), x13] =
    .nx [.dat ce, .dat mo, .dat (.bl ev), .dat (.int k), .dat ds, .own false ((rows ++ [r]).map Row.d), .dat (.int w'), x7, x8, .dat (.int a), .dat (.int b), .dat (.int c), .dat (.int d), x'] := by
  obtain ⟨n, e12, hn⟩ := pick12 hb hb2
  obtain ⟨m, eE, hm⟩ := pickE hb hb2
  obtain ⟨cc, eC, hcc⟩ := pickC hd hd2
  obtain ⟨x, eX⟩ := pickX hd hd2
  obtain ⟨l, eN, hl1, hl2⟩ := pickN hc hc2
  have er := rep_one k n hn
  have ln : (rows.map Row.d).length < 16777216 := by simp; omega
  have ap : ∀ r : Row, rows.map Row.d ++ [r.d] = (rows ++ [r]).map Row.d := fun r => by simp
  have eA : (mOp iLt (mV 9) (mC (.int 3))) [.dat ce, .dat mo, .dat (.bl ev), .dat (.int k), .dat ds, .own false (rows.map Row.d), .dat (.int wide), x7, x8, .dat (.int a), .dat (.int b), .dat (.int c), .dat (.int d), x13] = .ok (.bl (decide (a < 3))) [.dat ce, .dat mo, .dat (.bl ev), .dat (.int k), .dat ds, .own false (rows.map Row.d), .dat (.int wide), x7, x8, .dat (.int a), .dat (.int b), .dat (.int c), .dat (.int d), x13] := op_ok rfl rfl rfl
  have eW : (mOp iLt (mV 6) (mC (.int 6))) [.dat ce, .dat mo, .dat (.bl ev), .dat (.int k), .dat ds, .own false (rows.map Row.d), .dat (.int wide), x7, x8, .dat (.int a), .dat (.int b), .dat (.int c), .dat (.int d), x13] = .ok (.bl (decide (wide < 6))) [.dat ce, .dat mo, .dat (.bl ev), .dat (.int k), .dat ds, .own false (rows.map Row.d), .dat (.int wide), x7, x8, .dat (.int a), .dat (.int b), .dat (.int c), .dat (.int d), x13] := op_ok rfl rfl rfl
  have g1 := and_ok eA (fun _ => eW) (fun _ => rfl)
  have eB : (mOp gEq (mV 9) (mC (.int 3))) [.dat ce, .dat mo, .dat (.bl ev), .dat (.int k), .dat ds, .own false (rows.map Row.d), .dat (.int wide), x7, x8, .dat (.int a), .dat (.int b), .dat (.int c), .dat (.int d), x13] = .ok (.bl (a == 3)) [.dat ce, .dat mo, .dat (.bl ev), .dat (.int k), .dat ds, .own false (rows.map Row.d), .dat (.int wide), x7, x8, .dat (.int a), .dat (.int b), .dat (.int c), .dat (.int d), x13] := op_ok rfl rfl rfl
  have g2 := and_ok (b := mV 2) (y := ev) eB (fun _ => rfl) (fun _ => rfl)
  cases c1 : (decide (a < 3) && decide (wide < 6)) with
  | true =>
    rw [c1] at g1
    refine ⟨.w (intRow k n), wide + 1, x13, ⟨by simp [intRow]; omega, fun q hq => by rw [List.eq_of_mem_replicate hq]; exact .i k⟩, if_t g1 (seq_nx (asg_ok (op_ok rfl rfl rfl)) ?_)⟩
    rw [← ap, intRow_d]
    exact app_ok rfl (tup2_ok rfl (op_ok (x := .lst [.int k]) rfl (op_ok rfl rfl e12) er)) ln
  | false =>
    rw [c1] at g1
    cases c2 : ((a == 3) && ev) with
    | true =>
      rw [c2] at g2
      have hev : ev = true := by
        cases ev
        · simp at c2
        · rfl
      refine ⟨.e m, wide, x13, ⟨hev, hm⟩, if_f g1 (if_t g2 ?_)⟩
      rw [← ap]
      exact app_ok rfl (tup2_ok rfl (op_ok rfl rfl eE)) ln
    | false =>
      rw [c2] at g2
      have e4 : (mOp gEq (mV 11) (mC (.int 4))) [.dat ce, .dat mo, .dat (.bl ev), .dat (.int k), .dat ds, .own false (rows.map Row.d), .dat (.int wide), x7, x8, .dat (.int a), .dat (.int b), .dat (.int c), .dat (.int d), x13] = .ok (.bl (c == 4)) [.dat ce, .dat mo, .dat (.bl ev), .dat (.int k), .dat ds, .own false (rows.map Row.d), .dat (.int wide), x7, x8, .dat (.int a), .dat (.int b), .dat (.int c), .dat (.int d), x13] := op_ok rfl rfl rfl
      cases c3 : (c == 4) with
      | true =>
        rw [c3] at e4
        refine ⟨.b cc l x, wide, .dat (.int x), ⟨hcc, hl1, .inl (hl2 (by simpa using c3))⟩, if_f g1 (if_f g2 (seq_nx (asg_ok (mif_t e4 (op_ok rfl rfl eX))) ?_))⟩
        rw [← ap]
        exact app_ok rfl (tup4_ok rfl (op_ok rfl rfl eC) (op_ok rfl rfl eN) rfl) ln
      | false =>
        rw [c3] at e4
        refine ⟨.b cc l 0, wide, .dat (.int 0), ⟨hcc, hl1, .inr rfl⟩, if_f g1 (if_f g2 (seq_nx (asg_ok (mif_f e4 rfl)) ?_))⟩
        rw [← ap]
        exact app_ok rfl (tup4_ok rfl (op_ok rfl rfl eC) (op_ok rfl rfl eN) rfl) ln
end P

namespace P
open PySem PyProof.Rows L2 DL
theorem draft_loop {ce mo : D} {ev : Bool} {ds : List Int} (hr : Rng ds SZ) : ∀ (n k : Nat) (rows : List Row) (wide : Int) (x3 x7 x8 x9 x10 x11 x12 x13 : Sl), k + n ≤ 10 → rows.length + n < 900 → (∀ r ∈ rows, okR ev r) →
    ∃ (rows' : List Row) (w' : Int) (y3 y9 y10 y11 y12 y13 : Sl), forL (gN 3) M_law_draft_b1 (rngI k n) [.dat ce, .dat mo, .dat (.bl ev), x3, .dat (.lst (iL ds)), .own false (rows.map Row.d), .dat (.int wide), x7, x8, x9, x10, x11, x12, x13] =
      .nx [.dat ce, .dat mo, .dat (.bl ev), y3, .dat (.lst (iL ds)), .own false (rows'.map Row.d), .dat (.int w'), x7, x8, y9, y10, y11, y12, y13] ∧ rows'.length = rows.length + n ∧ ∀ r ∈ rows', okR ev r
  | 0, k, rows, wide, x3, x7, x8, x9, x10, x11, x12, x13, _, _, h => ⟨rows, wide, x3, x9, x10, x11, x12, x13, rfl, rfl, h⟩
  | n + 1, k, rows, wide, x3, x7, x8, x9, x10, x11, x12, x13, hk, hl, h => by
    have hlen : ds.length = 45 := by rw [hr.1]; rfl
    obtain ⟨a, b, c, d, ea, eb, ec, ed, e4⟩ := four (ds := ds) (n := 1 + 4 * k) (by omega)
    obtain ⟨s1, s2, s3, s4⟩ := SZ_at k (by omega)
    have ra := hr.2 (1 + 4 * k) a 8 ea s1
    have rb := hr.2 (2 + 4 * k) b 12 (by rw [show 2 + 4 * k = 1 + 4 * k + 1 by omega]; exact eb) s2
    have rc := hr.2 (3 + 4 * k) c 5 (by rw [show 3 + 4 * k = 1 + 4 * k + 2 by omega]; exact ec) s3
    have rd := hr.2 (4 + 4 * k) d 3 (by rw [show 4 + 4 * k = 1 + 4 * k + 3 by omega]; exact ed) s4
    have sl := draft_sl (E0 := [.dat ce, .dat mo, .dat (.bl ev), .dat (.int k), .dat (.lst (iL ds)), .own false (rows.map Row.d), .dat (.int wide), x7, x8, x9, x10, x11, x12, x13]) (k := k) (by omega) rfl rfl e4
    obtain ⟨r, w', x', ok, t⟩ := draft_turn (ce := ce) (mo := mo) (ev := ev) (k := (k : Int)) (ds := .lst (iL ds)) (rows := rows) (wide := wide) (x7 := x7) (x8 := x8) (x13 := x13) ra.1 rb.1 rb.2 rc.1 rc.2 rd.1 rd.2 (by omega)
    have b1 : M_law_draft_b1 [.dat ce, .dat mo, .dat (.bl ev), .dat (.int k), .dat (.lst (iL ds)), .own false (rows.map Row.d), .dat (.int wide), x7, x8, x9, x10, x11, x12, x13] = .nx [.dat ce, .dat mo, .dat (.bl ev), .dat (.int k), .dat (.lst (iL ds)), .own false ((rows ++ [r]).map Row.d), .dat (.int w'), x7, x8, .dat (.int a), .dat (.int b), .dat (.int c), .dat (.int d), x'] := by
      refine seq_nx (r1 := [.dat ce, .dat mo, .dat (.bl ev), .dat (.int k), .dat (.lst (iL ds)), .own false (rows.map Row.d), .dat (.int wide), x7, x8, .dat (.int a), .dat (.int b), .dat (.int c), .dat (.int d), x13]) ?_ t
      simp only [sAsgT, sl]
      rfl
    obtain ⟨rows', w2, y3, y9, y10, y11, y12, y13, e, l2, ok2⟩ := draft_loop (ce := ce) (mo := mo) (ev := ev) hr n (k + 1) (rows ++ [r]) w' (.dat (.int k)) x7 x8 (.dat (.int a)) (.dat (.int b)) (.dat (.int c)) (.dat (.int d)) x' (by omega) (by simp; omega) (fun q hq => by
      rcases List.mem_append.mp hq with hq | hq
      · exact h q hq
      · rw [List.mem_singleton] at hq; rw [hq]; exact ok)
    refine ⟨rows', w2, y3, y9, y10, y11, y12, y13, ?_, by rw [l2]; simp; omega, ok2⟩
    rw [rngI_succ]
    simp only [forL, ev_gN, List.set_cons_succ, List.set_cons_zero]
    rw [b1]
    exact e
end P

namespace P
open PySem PyProof.Rows L2 DL
def ins (rows : List Row) (j : Nat) (x : Row) : List Row := rows.take j ++ [x] ++ rows.drop j
theorem ins_perm (rows : List Row) (j : Nat) (x : Row) : (ins rows j x).Perm (x :: rows) := by
  unfold ins
  have e : rows.take j ++ [x] ++ rows.drop j = rows.take j ++ x :: rows.drop j := by simp
  rw [e]
  refine List.perm_middle.trans ?_
  rw [List.take_append_drop]
theorem ins_len (rows : List Row) (j : Nat) (x : Row) : (ins rows j x).length = rows.length + 1 := by
  rw [(ins_perm rows j x).length_eq]; rfl
theorem ins_turn {ce mo : D} {ev : Bool} {x3 x4 x6 x9 x10 x11 x12 x13 : Sl} {rows : List Row} {a : Int} {l : Str} (hl : rows.length < 1000) :
    M_law_draft_b2 [.dat ce, .dat mo, .dat (.bl ev), x3, x4, .own false (rows.map Row.d), x6, .dat (.int a), .dat (.str l), x9, x10, x11, x12, x13] = .nx [.dat ce, .dat mo, .dat (.bl ev), x3, x4, .own false ((ins rows (a % ((rows.length : Int) + 1)).toNat (.lb l)).map Row.d), x6, .dat (.int a), .dat (.str l), x9, x10, x11, x12, x13] := by
  have hn : (rows.map Row.d).length = rows.length := List.length_map ..
  have e : (ins rows (a % ((rows.length : Int) + 1)).toNat (.lb l)).map Row.d = (rows.map Row.d).take (a % ((rows.length : Int) + 1)).toNat ++ [(Row.lb l).d] ++ (rows.map Row.d).drop (a % ((rows.length : Int) + 1)).toNat := by
    simp [ins, List.map_take, List.map_drop]
  rw [e]
  have h0 : 0 ≤ a % ((rows.length : Int) + 1) := Int.emod_nonneg _ (by omega)
  have h1 : a % ((rows.length : Int) + 1) < (rows.length : Int) + 1 := Int.emod_lt_of_pos _ (by omega)
  refine insS_ok rfl (op_ok rfl (op_ok (lenO_ok rfl) rfl rfl) ?_) (tup2_ok rfl rfl) ⟨by omega, h0, by omega⟩
  rw [hn]
  show (if 0 < (rows.length : Int) + 1 then some (D.int (a % ((rows.length : Int) + 1))) else none) = _
  rw [if_pos (by omega)]
end P

namespace P
open PySem PyProof.Rows L2 DL
theorem cut_from (c : List Int) (a : Nat) : DL.cutD (iL c) (some (a : Int)) none = iL (c.drop a) := by
  unfold DL.cutD
  rw [HT.sIx_nat]
  simp only [HT.sIx]
  rw [List.take_of_length_le (by simp)]
  have hl : (iL c).length = c.length := by simp [iL]
  rw [hl]
  by_cases h : a ≤ c.length
  · rw [Nat.min_eq_left h]; simp [iL, List.map_drop]
  · rw [Nat.min_eq_right (by omega)]
    simp only [iL]
    rw [List.drop_of_length_le (by simp), List.drop_of_length_le (by omega)]
    rfl
def insAll : List Row → List (Int × Str) → List Row
  | rows, [] => rows
  | rows, p :: ps => insAll (ins rows (p.1 % ((rows.length : Int) + 1)).toNat (.lb p.2)) ps
theorem insAll_perm : ∀ (ps : List (Int × Str)) (rows : List Row), (insAll rows ps).Perm ((ps.map fun p => .lb p.2) ++ rows)
  | [], rows => .refl _
  | p :: ps, rows => by
    refine (insAll_perm ps _).trans ?_
    refine (List.Perm.append_left _ (ins_perm rows _ (.lb p.2))).trans ?_
    exact List.perm_middle
theorem ins_loop {ce mo : D} {ev : Bool} {x3 x4 x6 x9 x10 x11 x12 x13 : Sl} : ∀ (ps : List (Int × Str)) (rows : List Row) (x7 x8 : Sl), rows.length + ps.length < 1000 →
    ∃ x7' x8', forL (gTup2 2 (gsCons (gN 7) (gsCons (gN 8) gsNil))) M_law_draft_b2 (ps.map fun p => .tup [.int p.1, .str p.2]) [.dat ce, .dat mo, .dat (.bl ev), x3, x4, .own false (rows.map Row.d), x6, x7, x8, x9, x10, x11, x12, x13] = .nx [.dat ce, .dat mo, .dat (.bl ev), x3, x4, .own false ((insAll rows ps).map Row.d), x6, x7', x8', x9, x10, x11, x12, x13]
  | [], rows, x7, x8, _ => ⟨x7, x8, rfl⟩
  | p :: ps, rows, x7, x8, h => by
    simp only [List.length_cons] at h
    have t := ins_turn (ce := ce) (mo := mo) (ev := ev) (x3 := x3) (x4 := x4) (x6 := x6) (x9 := x9) (x10 := x10) (x11 := x11) (x12 := x12) (x13 := x13) (rows := rows) (a := p.1) (l := p.2) (by omega)
    obtain ⟨a, b, e⟩ := ins_loop (ce := ce) (mo := mo) (ev := ev) (x3 := x3) (x4 := x4) (x6 := x6) (x9 := x9) (x10 := x10) (x11 := x11) (x12 := x12) (x13 := x13) ps (ins rows (p.1 % ((rows.length : Int) + 1)).toNat (.lb p.2)) (.dat (.int p.1)) (.dat (.str p.2)) (by rw [ins_len]; omega)
    refine ⟨a, b, ?_⟩
    simp only [List.map_cons, forL, ev_gTup2_t, List.length_cons, List.length_nil, ev_gsCons, ev_gN, ev_gsNil, Option.bind_some, List.set_cons_succ, List.set_cons_zero, if_true]
    rw [t]
    exact e
def LBS : List Str := ["la", "lb", "lc", "ld"]
def okL (ev : Bool) : Row → Prop
  | .lb l => l ∈ LBS
  | r => okR ev r
structure Dft (ev : Bool) (rs : List Row) : Prop where
  g : Good rs
  ln : rs.length ≤ 14
  al : ∀ l ∈ LBS, Row.lb l ∈ rs
  ok : ∀ r ∈ rs, okL ev r
theorem zipI_snd (p : Row → Bool) : ∀ (rs : List Row) (i : Int), ((zipI i rs).filter (fun x => p x.2)).map (·.2) = rs.filter p
  | [], _ => rfl
  | r :: rs, i => by
    simp only [zipI, List.filter_cons]
    cases p r <;> simp [zipI_snd p rs]
theorem spots_names (rs : List Row) : (spots rs).map (·.1) = (rs.filter Row.isL).map Row.name := by
  rw [← zipI_snd Row.isL rs 0]
  simp [spots, List.map_map, Function.comp_def]
theorem brs_count (rs : List Row) : (brs rs).length = (rs.filter Row.isB).length := by
  rw [← zipI_snd Row.isB rs 0]
  simp [brs]
theorem okR_lab {ev : Bool} {r : Row} (h : okR ev r) : r.isL = false ∧ okL ev r ∧ r.good := by
  cases r with
  | w l => exact ⟨rfl, h, trivial⟩
  | e m => exact ⟨rfl, h, by have := h.2.1; show 0 < m; omega⟩
  | b c l x => exact ⟨rfl, h, trivial⟩
  | lb l => exact absurd h id
theorem dft_of {ev : Bool} {rows : List Row} {a b c d : Int} (h : ∀ r ∈ rows, okR ev r) (hl : rows.length ≤ 10) : Dft ev (insAll rows [(a, "la"), (b, "lb"), (c, "lc"), (d, "ld")]) := by
  have p := insAll_perm [(a, "la"), (b, "lb"), (c, "lc"), (d, "ld")] rows
  have hm : ∀ r ∈ insAll rows [(a, "la"), (b, "lb"), (c, "lc"), (d, "ld")], (∃ l, r = .lb l ∧ l ∈ LBS) ∨ r ∈ rows := fun r hr => by
    rcases List.mem_append.mp (p.mem_iff.mp hr) with q | q
    · simp at q
      rcases q with rfl | rfl | rfl | rfl
      · exact .inl ⟨_, rfl, by decide⟩
      · exact .inl ⟨_, rfl, by decide⟩
      · exact .inl ⟨_, rfl, by decide⟩
      · exact .inl ⟨_, rfl, by decide⟩
    · exact .inr q
  have n0 : rows.filter Row.isL = [] := List.filter_eq_nil_iff.mpr fun r hr => by rw [(okR_lab (h r hr)).1]; decide
  refine ⟨⟨fun r hr => ?_, ?_, ?_⟩, ?_, fun l hl => ?_, fun r hr => ?_⟩
  · rcases hm r hr with ⟨l, rfl, _⟩ | q
    · trivial
    · exact (okR_lab (h r q)).2.2
  · rw [p.length_eq]; simp; omega
  · rw [spots_names]
    have q := (p.filter Row.isL).map Row.name
    refine q.nodup_iff.mpr ?_
    rw [List.filter_append, n0]
    show (["la", "lb", "lc", "ld"] : List Str).Nodup
    decide
  · rw [p.length_eq]; simp; omega
  · refine p.mem_iff.mpr (List.mem_append_left _ ?_)
    simp only [LBS, List.mem_cons, List.not_mem_nil, or_false] at hl
    rcases hl with rfl | rfl | rfl | rfl <;> simp
  · rcases hm r hr with ⟨l, rfl, q⟩ | q
    · exact q
    · exact (okR_lab (h r q)).2.1
theorem sizes_ok (R : DEnv) : (mOp gAdd (mOp gAdd (mAgs gLstD (aCons (mC (.int 8)) aNil)) (mOp lRep (mAgs gLstD (aCons (mC (.int 8)) (aCons (mC (.int 12)) (aCons (mC (.int 5)) (aCons (mC (.int 3)) aNil))))) (mC (.int 10)))) (mOp lRep (mAgs gLstD (aCons (mC (.int 11)) aNil)) (mC (.int 4)))) R = .ok (.lst (iL SZ)) R := by kernel_rfl
theorem SZ_rng : ∀ z ∈ SZ, 0 < z ∧ z < 1000 := by decide
theorem draft_ok (c : Int) {most : Nat} (hm : most ≤ 10) (ev : Bool) : ∃ rs, F_law_draft [.int c, .int most, .bl ev] = .ok (.lst (rs.map Row.d)) ∧ Dft ev rs := by
  obtain ⟨ds, e0, hr⟩ := law_row_ok c SZ_rng (by decide)
  have hlen : ds.length = 45 := by rw [hr.1]; rfl
  have h0 : ds[0]? = some ds[0] := by simp
  have r0 := hr.2 0 ds[0] 8 h0 rfl
  obtain ⟨a, b, cc, d, _, _, _, _, e4⟩ := four (ds := ds) (n := 41) (by omega)
  have e4' : ds.drop 41 = [a, b, cc, d] := by rw [← e4, List.take_of_length_le (by simp; omega)]
  let R0 : DEnv := [.dat (.int c), .dat (.int most), .dat (.bl ev), .un, .un, .un, .un, .un, .un, .un, .un, .un, .un, .un]
  let R1 : DEnv := [.dat (.int c), .dat (.int most), .dat (.bl ev), .un, .dat (.lst (iL ds)), .own false (([] : List Row).map Row.d), .dat (.int 0), .un, .un, .un, .un, .un, .un, .un]
  have s1 : (sParV3 4 5 6 (vCons (mCall F_law_row (aCons (mV 0) (aCons (mOp gAdd (mOp gAdd (mAgs gLstD (aCons (mC (.int 8)) aNil)) (mOp lRep (mAgs gLstD (aCons (mC (.int 8)) (aCons (mC (.int 12)) (aCons (mC (.int 5)) (aCons (mC (.int 3)) aNil))))) (mC (.int 10)))) (mOp lRep (mAgs gLstD (aCons (mC (.int 11)) aNil)) (mC (.int 4)))) aNil))) (vConsO (mShort aNil) (vCons (mC (.int 0)) vNil)))) R0 = .nx R1 := by
    have q : (mCall F_law_row (aCons (mV 0) (aCons (mOp gAdd (mOp gAdd (mAgs gLstD (aCons (mC (.int 8)) aNil)) (mOp lRep (mAgs gLstD (aCons (mC (.int 8)) (aCons (mC (.int 12)) (aCons (mC (.int 5)) (aCons (mC (.int 3)) aNil))))) (mC (.int 10)))) (mOp lRep (mAgs gLstD (aCons (mC (.int 11)) aNil)) (mC (.int 4)))) aNil))) R0 = .ok (.lst (iL ds)) R0 := by
      refine call_ok (ds := [.int c, .lst (iL SZ)]) ?_ e0
      simp only [aCons, sizes_ok]
      rfl
    simp only [sParV3, vCons, q]
    rfl
  obtain ⟨n, hn, en⟩ : ∃ n : Nat, n ≤ 10 ∧ gMin2 (.int (2 + ds[0])) (.int most) = some (.int n) := by
    by_cases q : (most : Int) < 2 + ds[0]
    · exact ⟨most, hm, by simp only [gMin2, if_pos q]⟩
    · refine ⟨(2 + ds[0]).toNat, by omega, ?_⟩
      simp only [gMin2, if_neg q]
      congr 2
      omega
  have s2 : (mRng1 (aCons (mAgs (b2 gMin2) (aCons (mOp gAdd (mC (.int 2)) (mOp gSub (mV 4) (mC (.int 0)))) (aCons (mV 1) aNil))) aNil)) R1 = .ok (rngI 0 n) R1 := by
    refine ev_rng ?_ (by omega)
    have q : (mOp gAdd (mC (.int 2)) (mOp gSub (mV 4) (mC (.int 0)))) R1 = .ok (.int (2 + ds[0])) R1 := by
      refine op_ok rfl (op_ok (x := .lst (iL ds)) (y := .int 0) rfl rfl (d := .int ds[0]) ?_) rfl
      show atI (iL ds) 0 = _
      rw [show (0 : Int) = ((0 : Nat) : Int) from rfl, DL.atI_nat, iL, List.getElem?_map, h0]
      rfl
    exact acons_ok (ags2_ok q rfl en) rfl
  obtain ⟨rows, w', y3, y9, y10, y11, y12, y13, e, l2, ok2⟩ := draft_loop (ce := .int c) (mo := .int most) (ev := ev) hr n 0 [] 0 .un .un .un .un .un .un .un .un (by omega) (by simp; omega) (fun r hr => by cases hr)
  simp only [List.length_nil, Nat.zero_add] at l2
  let R2 : DEnv := [.dat (.int c), .dat (.int most), .dat (.bl ev), y3, .dat (.lst (iL ds)), .own false (rows.map Row.d), .dat (.int w'), .un, .un, y9, y10, y11, y12, y13]
  obtain ⟨a7, a8, e5⟩ := ins_loop (ce := .int c) (mo := .int most) (ev := ev) (x3 := y3) (x4 := .dat (.lst (iL ds))) (x6 := .dat (.int w')) (x9 := y9) (x10 := y10) (x11 := y11) (x12 := y12) (x13 := y13) [(a, "la"), (b, "lb"), (cc, "lc"), (d, "ld")] rows .un .un (by simp; omega)
  have s3 : (mIt zipOf (aCons (mSl (mV 4) (mInt (mC (.int 41))) (mC .non)) (aCons (mAgs gLstD (aCons (mC (.str "la")) (aCons (mC (.str "lb")) (aCons (mC (.str "lc")) (aCons (mC (.str "ld")) aNil))))) aNil))) R2 = .ok (([(a, "la"), (b, "lb"), (cc, "lc"), (d, "ld")] : List (Int × Str)).map fun p => .tup [.int p.1, .str p.2]) R2 := by
    have q : (mSl (mV 4) (mInt (mC (.int 41))) (mC .non)) R2 = .ok (.lst (iL [a, b, cc, d])) R2 := by
      rw [← e4', ← cut_from]
      rfl
    simp only [mIt, aCons, q]
    rfl
  refine ⟨_, ?_, dft_of (a := a) (b := b) (c := cc) (d := d) ok2 (by omega)⟩
  exact run_rt (r := R0) rfl rfl (seq_nx s1 (seq_nx (for_nx s2 e) (seq_nx (for_nx s3 e5) rfl)))
end P

namespace P
open PySem PyProof.Rows L2 DL
/-! ### rows as the program takes them -/
theorem wd_ok {a b : D} (h : Wd a b) : F_is_sum [a] = .ok (.bl true) ∧ F_sum_of [a] = .ok b := by
  cases h with
  | i k => exact ⟨by kernel_rfl, by kernel_rfl⟩
  | s0 k => exact ⟨by kernel_rfl, by kernel_rfl⟩
  | s1 => exact ⟨by kernel_rfl, by kernel_rfl⟩
  | s2 => exact ⟨by kernel_rfl, by kernel_rfl⟩
  | s3 => exact ⟨by kernel_rfl, by kernel_rfl⟩
  | s4 k => exact ⟨by kernel_rfl, by kernel_rfl⟩
  | s5 => exact ⟨by kernel_rfl, by kernel_rfl⟩
  | s6 => exact ⟨by kernel_rfl, by kernel_rfl⟩
theorem name_ok {l : Str} (h : l ∈ (["la", "lb", "lc", "ld", "away"] : List Str)) : F_is_name [.str l] = .ok (.bl true) := by
  simp only [List.mem_cons, List.not_mem_nil, or_false] at h
  rcases h with rfl | rfl | rfl | rfl | rfl <;> kernel_rfl
theorem words_all {l : List (D × D)} (hn : l.length ≤ 255) (hw : ∀ q ∈ l, Wd q.1 q.2) : (mLc (mIter (mOp gSub (mV 0) (mC (.int 1)))) (gN 2) mYes (mCall F_is_sum (aCons (mV 2) aNil)) [2]) [.dat (Row.w l).d, .un, .un, .un, .un] = .ok (l.map fun _ => .bl true) [.dat (Row.w l).d, .un, .un, .un, .un] :=
  mLc_all (l := l) (·.1) (fun _ => .bl true) rfl rfl (by omega) fun x hx => ⟨[.dat (Row.w l).d, .un, .dat x.1, .un, .un], rfl, rfl, rfl, call_ok rfl (wd_ok (hw x hx)).1⟩
theorem is_row_ok {ev : Bool} {r : Row} (h : okL ev r) : F_is_row [r.d] = .ok (.bl true) := by
  cases r with
  | w l =>
    have q := words_all h.1 h.2
    have q2 : gAll (.lst (l.map fun _ => .bl true)) = some (.bl true) := by
      rw [all_map (fun _ => true)]; simp
    refine run_rt (r := [.dat (Row.w l).d, .un, .un, .un, .un]) (r' := [.dat (Row.w l).d, .un, .un, .un, .un]) rfl rfl (seq_nx (r1 := [.dat (Row.w l).d, .un, .un, .un, .un]) rfl ?_)
    have t : (mAnd (mOp gEq (mOp gSub (mV 0) (mC (.int 0))) (mC (.str "words"))) (mOp gEq (mAgs (b1 gLen) (aCons (mV 0) aNil)) (mC (.int 2)))) [.dat (Row.w l).d, .un, .un, .un, .un] = .ok (.bl true) [.dat (Row.w l).d, .un, .un, .un, .un] := by
      simp [Row.d]
    exact seq_rt (if_t t (ret_ok (and_ok (x := true) (y := true) rfl (fun _ => ags1_ok (frz_ok q) q2) (fun h => by cases h))))
  | e m =>
    obtain ⟨_, h1, h2⟩ := h
    simp [F_is_row, M_is_row, runF, Row.d, F_is_list, M_is_list, F_is_integer, M_is_integer, gIsi, gIsiLT, isT, c_WIDEST, h1, h2]
  | b c l x =>
    obtain ⟨h1, h2, _⟩ := h
    have nm := name_ok h2
    simp only [List.mem_cons, List.not_mem_nil, or_false] at h1
    have i1 : F_is_integer [.int x] = .ok (.bl true) := by kernel_rfl
    refine run_rt (r := [.dat (Row.b c l x).d, .un, .un, .un, .un]) (r' := [.dat (Row.b c l x).d, .dat (.bl true), .un, .un, .un]) rfl rfl (seq_nx (r1 := [.dat (Row.b c l x).d, .un, .un, .un, .un]) rfl (seq_nx (r1 := [.dat (Row.b c l x).d, .un, .un, .un, .un]) ?_ (seq_nx (r1 := [.dat (Row.b c l x).d, .un, .un, .un, .un]) ?_ (seq_nx (r1 := [.dat (Row.b c l x).d, .un, .un, .un, .un]) ?_ (seq_nx (r1 := [.dat (Row.b c l x).d, .un, .un, .un, .un]) ?_ (seq_nx (r1 := [.dat (Row.b c l x).d, .dat (.bl true), .un, .un, .un]) ?_ ?_))))))
    · simp [Row.d]
    · simp [Row.d]
    · simp [Row.d]
    · simp [Row.d]
    · rcases h1 with rfl | rfl | rfl <;> kernel_rfl
    · refine ret_ok (and_ok (x := true) (y := true) rfl (fun _ => and_ok (x := true) (y := true) (call_ok (ds := [.str l]) rfl nm) (fun _ => call_ok (ds := [.int x]) rfl i1) (fun h => by cases h)) (fun h => by cases h))
  | lb l =>
    have nm := name_ok (l := l) (by
      have : l ∈ LBS := h
      simp only [LBS, List.mem_cons, List.not_mem_nil, or_false] at this ⊢
      rcases this with h | h | h | h <;> simp [h])
    simp [F_is_row, M_is_row, runF, Row.d, F_is_list, M_is_list, gIsi, gIsiLT, isT, nm]
theorem as_row_ok {ev : Bool} {r : Row} (h : okL ev r) : F_as_row [r.d] = .ok r.p := by
  cases r with
  | w l =>
    have q : (mLc (mIter (mOp gSub (mV 0) (mC (.int 1)))) (gN 1) mYes (mCall F_sum_of (aCons (mV 1) aNil)) [1]) [.dat (Row.w l).d, .un] = .ok (l.map (·.2)) [.dat (Row.w l).d, .un] := by
      exact mLc_all (l := l) (·.1) (·.2) rfl rfl (by have := h.1; omega) fun x hx => ⟨[.dat (Row.w l).d, .dat x.1], rfl, rfl, rfl, call_ok rfl (wd_ok (h.2 x hx)).2⟩
    have q2 : gTupOf (.lst (l.map (·.2))) = some (.tup (l.map (·.2))) := rfl
    refine run_rt (r := [.dat (Row.w l).d, .un]) (r' := [.dat (Row.w l).d, .un]) rfl rfl ?_
    have t : (mOp gEq (mOp gSub (mV 0) (mC (.int 0))) (mC (.str "words"))) [.dat (Row.w l).d, .un] = .ok (.bl true) [.dat (Row.w l).d, .un] := by
      simp [Row.d]
    exact seq_rt (if_t t (ret_ok (tup2_ok rfl (ags1_ok (frz_ok q) q2))))
  | e m => simp [F_as_row, M_as_row, runF, Row.d, Row.p, gTupOf]
  | b c l x => simp [F_as_row, M_as_row, runF, Row.d, Row.p, gTupOf]
  | lb l => simp [F_as_row, M_as_row, runF, Row.d, Row.p, gTupOf]
end P

namespace P
open PySem PyProof.Rows L2 DL
def spotsF (i : Int) (rs : List Row) : List (Str × Int) := ((zipI i rs).filter (·.2.isL)).map fun p => (p.2.name, p.1)
theorem lookS_none {l : List (Str × Int)} {s : Str} (h : s ∉ l.map (·.1)) : lookS l s = none := by
  cases e : lookS l s with
  | none => rfl
  | some i => exact absurd (List.mem_map.mpr ⟨_, lookS_mem e, rfl⟩) h
theorem lookS_some : ∀ {l : List (Str × Int)} {s : Str} {i : Int}, (l.map (·.1)).Nodup → (s, i) ∈ l → lookS l s = some i
  | p :: l, s, i, hn, h => by
    rw [List.map_cons, List.nodup_cons] at hn
    unfold lookS
    rcases List.mem_cons.mp h with rfl | h
    · simp
    · have : p.1 ≠ s := fun e => hn.1 (List.mem_map.mpr ⟨_, h, e.symm⟩)
      simp [this, lookS_some hn.2 h]
theorem lookT_sp (l : List (Str × Int)) (s : Str) : lookT false ((spK l).map kd) (.str s) = some ((lookS l s).map .int) := by
  have := lookT_kd (spK l) (.inr s)
  rw [lkp_S] at this
  exact this
theorem putT_sp {l : List (Str × Int)} {s : Str} (h : s ∉ l.map (·.1)) (i : Int) : putT false ((spK l).map kd) (.str s) (.int i) = some ((spK (l ++ [(s, i)])).map kd) := by
  have := dPut_new (ps := spK l) (k := .inr s) (d := .int i) (fun q => h (by
    simp only [spK, List.map_map, List.mem_map, Function.comp_apply] at q ⊢
    obtain ⟨p, hp, e⟩ := q
    exact ⟨p, hp, Sum.inr.inj e⟩))
  show some (dPut (isKK (.inr s)) (keyD (.inr s)) ((spK l).map kd) (.int i)) = _
  rw [this]
  simp [spK]
theorem len_sp (l : List (Str × Int)) : ((spK l).map kd).length = l.length := by simp [spK]
theorem di_loop {ev : Bool} {R : D} : ∀ (rs : List Row) (i : Int) (sp : List (Str × Int)) (x y : Sl), (∀ r ∈ rs, okL ev r) → ((sp ++ spotsF i rs).map (·.1)).Nodup → sp.length + rs.length < 1000 →
    ∃ x' y', forL (gTup2 2 (gsCons (gN 3) (gsCons (gN 4) gsNil))) M_Draft_init_b1 (enumF i (rs.map Row.d)) [.ownI "Draft" [], .dat R, .ownD false ((spK sp).map kd), x, y] = .nx [.ownI "Draft" [], .dat R, .ownD false ((spK (sp ++ spotsF i rs)).map kd), x', y']
  | [], i, sp, x, y, _, _, _ => ⟨x, y, by simp [spotsF, zipI, forL, enumF]⟩
  | r :: rs, i, sp, x, y, ho, hn, hl => by
    simp only [List.length_cons] at hl
    have okr := is_row_ok (ho r (by simp))
    by_cases q : r.isL = true
    · obtain ⟨l, rfl⟩ : ∃ l, r = .lb l := by cases r <;> first | exact ⟨_, rfl⟩ | (cases q; done)
      have es : spotsF i (Row.lb l :: rs) = (l, i) :: spotsF (i + 1) rs := rfl
      rw [es] at hn ⊢
      have hx : l ∉ sp.map (·.1) := by
        rw [List.map_append, List.nodup_append] at hn
        intro hm
        exact hn.2.2 _ hm l (by simp) rfl
      obtain ⟨a, b, e⟩ := di_loop (ev := ev) (R := R) rs (i + 1) (sp ++ [(l, i)]) (.dat (.int i)) (.dat (Row.lb l).d) (fun r hr => ho r (by simp [hr])) (by simpa using hn) (by simp; omega)
      refine ⟨a, b, ?_⟩
      have t : M_Draft_init_b1 [.ownI "Draft" [], .dat R, .ownD false ((spK sp).map kd), .dat (.int i), .dat (Row.lb l).d] = .nx [.ownI "Draft" [], .dat R, .ownD false ((spK (sp ++ [(l, i)])).map kd), .dat (.int i), .dat (Row.lb l).d] := by
        have t1 : (mAnd (mCall F_is_row (aCons (mV 4) aNil)) (mOp gEq (mOp gSub (mV 4) (mC (.int 0))) (mC (.str "label")))) [.ownI "Draft" [], .dat R, .ownD false ((spK sp).map kd), .dat (.int i), .dat (Row.lb l).d] = .ok (.bl true) [.ownI "Draft" [], .dat R, .ownD false ((spK sp).map kd), .dat (.int i), .dat (Row.lb l).d] :=
          and_ok (x := true) (y := true) (call_ok (ds := [(Row.lb l).d]) rfl okr) (fun _ => op_ok (x := .str "label") rfl rfl (by simp)) (fun h => by cases h)
        refine if_t t1 ?_
        have g1 : (mOp gSub (mV 4) (mC (.int 1))) [.ownI "Draft" [], .dat R, .ownD false ((spK sp).map kd), .dat (.int i), .dat (Row.lb l).d] = .ok (.str l) [.ownI "Draft" [], .dat R, .ownD false ((spK sp).map kd), .dat (.int i), .dat (Row.lb l).d] := rfl
        have g2 : (mDGetO 2 (mOp gSub (mV 4) (mC (.int 1))) (mV 3)) [.ownI "Draft" [], .dat R, .ownD false ((spK sp).map kd), .dat (.int i), .dat (Row.lb l).d] = .ok (.int i) [.ownI "Draft" [], .dat R, .ownD false ((spK sp).map kd), .dat (.int i), .dat (Row.lb l).d] := by
          simp only [mDGetO, g1]
          simp [lookT_sp, lookS_none hx]
        have ll : ((spK sp).map kd).length < 16777216 := by rw [len_sp]; omega
        exact dputX_ok g2 rfl g1 (putT_sp hx i) ll
      simp only [List.map_cons, enumF, forL, ev_gTup2_t, List.length_cons, List.length_nil, ev_gsCons, ev_gN, ev_gsNil, Option.bind_some, List.set_cons_succ, List.set_cons_zero, if_true]
      rw [t]
      simpa using e
    · have q : r.isL = false := by simpa using q
      have es : spotsF i (r :: rs) = spotsF (i + 1) rs := by simp [spotsF, zipI, q]
      rw [es] at hn ⊢
      obtain ⟨a, b, e⟩ := di_loop (ev := ev) (R := R) rs (i + 1) sp (.dat (.int i)) (.dat r.d) (fun r hr => ho r (by simp [hr])) hn (by omega)
      refine ⟨a, b, ?_⟩
      have t : M_Draft_init_b1 [.ownI "Draft" [], .dat R, .ownD false ((spK sp).map kd), .dat (.int i), .dat r.d] = .nx [.ownI "Draft" [], .dat R, .ownD false ((spK sp).map kd), .dat (.int i), .dat r.d] := by
        have t1 : (mAnd (mCall F_is_row (aCons (mV 4) aNil)) (mOp gEq (mOp gSub (mV 4) (mC (.int 0))) (mC (.str "label")))) [.ownI "Draft" [], .dat R, .ownD false ((spK sp).map kd), .dat (.int i), .dat r.d] = .ok (.bl false) [.ownI "Draft" [], .dat R, .ownD false ((spK sp).map kd), .dat (.int i), .dat r.d] := by
          refine and_ok (x := true) (y := false) (call_ok (ds := [r.d]) rfl okr) (fun _ => ?_) (fun h => by cases h)
          cases r <;> first | (cases q; done) | simp [Row.d]
        exact if_f t1 rfl
      simp only [List.map_cons, enumF, forL, ev_gTup2_t, List.length_cons, List.length_nil, ev_gsCons, ev_gN, ev_gsNil, Option.bind_some, List.set_cons_succ, List.set_cons_zero, if_true]
      rw [t]
      exact e
theorem dj_loop {ev : Bool} {R : D} {sp : List (Str × Int)} (ha : lookS sp "away" = none) : ∀ (rs : List Row) (i : Int) (x y : Sl), (∀ r ∈ rs, okL ev r) → (∀ p ∈ spotsF i rs, lookS sp p.1 = some p.2) →
    ∃ x' y', forL (gTup2 2 (gsCons (gN 3) (gsCons (gN 4) gsNil))) M_Draft_init_b2 (enumF i (rs.map Row.d)) [.ownI "Draft" [], .dat R, .ownD false ((spK sp).map kd), x, y] = .nx [.ownI "Draft" [], .dat R, .ownD false ((spK sp).map kd), x', y']
  | [], i, x, y, _, _ => ⟨x, y, rfl⟩
  | r :: rs, i, x, y, ho, hs => by
    have okr := is_row_ok (ho r (by simp))
    obtain ⟨a, b, e⟩ := dj_loop (ev := ev) (R := R) ha rs (i + 1) (.dat (.int i)) (.dat r.d) (fun r hr => ho r (by simp [hr])) (fun p hp => hs p (by
      unfold spotsF at hp ⊢
      simp only [zipI, List.filter_cons]
      cases r.isL <;> simp_all))
    refine ⟨a, b, ?_⟩
    have t : M_Draft_init_b2 [.ownI "Draft" [], .dat R, .ownD false ((spK sp).map kd), .dat (.int i), .dat r.d] = .nx [.ownI "Draft" [], .dat R, .ownD false ((spK sp).map kd), .dat (.int i), .dat r.d] := by
      let Z : DEnv := [.ownI "Draft" [], .dat R, .ownD false ((spK sp).map kd), .dat (.int i), .dat r.d]
      have t0 : (mNot (mCall F_is_row (aCons (mV 4) aNil))) Z = .ok (.bl false) Z := not_ok (x := true) (call_ok (ds := [r.d]) rfl okr)
      have t1 : (mAnd (mOp gEq (mOp gSub (mV 4) (mC (.int 0))) (mC (.str "label"))) (mOp gNe (mDIxO 2 (mOp gSub (mV 4) (mC (.int 1)))) (mV 3))) Z = .ok (.bl false) Z := by
        cases r with
        | lb l =>
          have hl := hs (l, i) (by simp [spotsF, zipI, Row.isL, Row.name])
          refine and_ok (r1 := Z) (x := true) (y := false) (by simp [Z, Row.d]) (fun _ => op_ok (r1 := Z) (x := .int i) (y := .int i) ?_ rfl (by simp)) (fun h => by cases h)
          have g1 : (mOp gSub (mV 4) (mC (.int 1))) Z = .ok (.str l) Z := rfl
          simp only [mDIxO, g1]
          simp [Z, lookT_sp, hl]
        | w ws => exact and_ok (r1 := Z) (x := false) (y := true) (by simp [Z, Row.d]) (fun h => by cases h) (fun _ => rfl)
        | e m => exact and_ok (r1 := Z) (x := false) (y := true) (by simp [Z, Row.d]) (fun h => by cases h) (fun _ => rfl)
        | b c l x => exact and_ok (r1 := Z) (x := false) (y := true) (by simp [Z, Row.d]) (fun h => by cases h) (fun _ => rfl)
      have t2 : (mAnd (mOp gEq (mOp gSub (mV 4) (mC (.int 0))) (mC (.str "branch"))) (mAnd (mDInO true 2 (mOp gSub (mV 4) (mC (.int 2)))) (mOp gNe (mOp gSub (mV 4) (mC (.int 3))) (mC (.int 0))))) Z = .ok (.bl false) Z := by
        cases r with
        | lb l => exact and_ok (r1 := Z) (x := false) (y := true) (by simp [Z, Row.d]) (fun h => by cases h) (fun _ => rfl)
        | w ws => exact and_ok (r1 := Z) (x := false) (y := true) (by simp [Z, Row.d]) (fun h => by cases h) (fun _ => rfl)
        | e m => exact and_ok (r1 := Z) (x := false) (y := true) (by simp [Z, Row.d]) (fun h => by cases h) (fun _ => rfl)
        | b c l x =>
          obtain ⟨_, _, h3⟩ := ho (.b c l x) (by simp)
          refine and_ok (r1 := Z) (x := true) (y := false) (by simp [Z, Row.d]) (fun _ => ?_) (fun h => by cases h)
          have g1 : (mOp gSub (mV 4) (mC (.int 2))) Z = .ok (.str l) Z := rfl
          have g2 : (mDInO true 2 (mOp gSub (mV 4) (mC (.int 2)))) Z = .ok (.bl (lookS sp l).isSome) Z := by
            simp only [mDInO, g1]
            simp [Z, lookT_sp]
          rcases h3 with h3 | h3
          · subst h3
            rw [ha] at g2
            exact and_ok (x := false) (y := true) g2 (fun h => by cases h) (fun _ => rfl)
          · subst h3
            have : (mOp gNe (mOp gSub (mV 4) (mC (.int 3))) (mC (.int 0))) Z = .ok (.bl false) Z := by simp [Z, Row.d]
            have := and_ok g2 (fun _ => this) (fun _ => rfl)
            rw [Bool.and_false] at this
            exact this
      have t3 : (mOr (mNot (mCall F_is_row (aCons (mV 4) aNil))) (mAnd (mOp gEq (mOp gSub (mV 4) (mC (.int 0))) (mC (.str "label"))) (mOp gNe (mDIxO 2 (mOp gSub (mV 4) (mC (.int 1)))) (mV 3)))) Z = .ok (.bl false) Z := by
        simp only [mOr, t0, bindE, t1]
      exact seq_nx (r1 := Z) (if_f t3 rfl) (if_f t2 rfl)
    simp only [List.map_cons, enumF, forL, ev_gTup2_t, List.length_cons, List.length_nil, ev_gsCons, ev_gN, ev_gsNil, Option.bind_some, List.set_cons_succ, List.set_cons_zero, if_true]
    rw [t]
    exact e
theorem draft_init_ok {ev : Bool} {rs : List Row} (h : Dft ev rs) : F_Draft_init [.lst (rs.map Row.d)] = .ok [("draft_rows", .lst (rs.map Row.p)), ("labels", .dct false ((spK (spots rs)).map kd))] := by
  have nod := h.g.nod
  have hl := h.g.len
  have es : spotsF 0 rs = spots rs := rfl
  obtain ⟨x1, y1, e1⟩ := di_loop (ev := ev) (R := .lst (rs.map Row.d)) rs 0 [] .un .un h.ok (by rw [List.nil_append, es]; exact nod) (by simp; omega)
  rw [List.nil_append, es] at e1
  have ha : lookS (spots rs) "away" = none := lookS_none fun q => by
    rw [spots_names] at q
    obtain ⟨r, hr, e⟩ := List.mem_map.mp q
    obtain ⟨h1, h2⟩ := List.mem_filter.mp hr
    have := h.ok r h1
    cases r <;> first | (cases h2; done) | skip
    rename_i l
    have e : l = "away" := e
    subst e
    have this : ("away" : Str) ∈ LBS := this
    exact absurd this (by decide)
  obtain ⟨x2, y2, e2⟩ := dj_loop (ev := ev) (R := .lst (rs.map Row.d)) ha rs 0 x1 y1 h.ok (fun p hp => lookS_some nod hp)
  let Z0 : DEnv := [.ownI "Draft" [], .dat (.lst (rs.map Row.d)), .un, .un, .un]
  let Z1 : DEnv := [.ownI "Draft" [], .dat (.lst (rs.map Row.d)), .ownD false [], .un, .un]
  let Z2 : DEnv := [.ownI "Draft" [], .dat (.lst (rs.map Row.d)), .ownD false ((spK (spots rs)).map kd), x1, y1]
  let Z3 : DEnv := [.ownI "Draft" [], .dat (.lst (rs.map Row.d)), .ownD false ((spK (spots rs)).map kd), x2, y2]
  let Z4 : DEnv := [.ownI "Draft" [], .dat (.lst (rs.map Row.d)), .ownD false ((spK (spots rs)).map kd), x2, .un]
  have it : ∀ a c d e, (mIt enumOf (aCons (mV 1) aNil)) [a, .dat (.lst (rs.map Row.d)), c, d, e] = .ok (enumF 0 (rs.map Row.d)) [a, .dat (.lst (rs.map Row.d)), c, d, e] := by
    intro a c d e
    rw [← enumD_F]
    rfl
  have lc : (mLc (mIter (mV 1)) (gN 4) mYes (mCall F_as_row (aCons (mV 4) aNil)) [4]) Z3 = .ok (rs.map Row.p) Z4 :=
    mLc_all (l := rs) Row.d Row.p rfl rfl (by omega) fun r hr => ⟨[.ownI "Draft" [], .dat (.lst (rs.map Row.d)), .ownD false ((spK (spots rs)).map kd), x2, .dat r.d], rfl, rfl, rfl, call_ok rfl (as_row_ok (h.ok r hr))⟩
  have f1 : sFldO 0 "Draft" "draft_rows" (mFrz (mLc (mIter (mV 1)) (gN 4) mYes (mCall F_as_row (aCons (mV 4) aNil)) [4])) Z3 = .nx [.ownI "Draft" [("draft_rows", .lst (rs.map Row.p))], .dat (.lst (rs.map Row.d)), .ownD false ((spK (spots rs)).map kd), x2, .un] := by
    simp only [sFldO, frz_ok lc]
    rfl
  have m : M_Draft_init Z0 = .nx [.ownI "Draft" [("draft_rows", .lst (rs.map Row.p)), ("labels", .dct false ((spK (spots rs)).map kd))], .dat (.lst (rs.map Row.d)), .dat (.dct false ((spK (spots rs)).map kd)), x2, .un] := by
    refine seq_nx (r1 := Z0) rfl (seq_nx (r1 := Z1) rfl (seq_nx (for_nx (it _ _ _ _) e1) (seq_nx (for_nx (it _ _ _ _) e2) (seq_nx f1 ?_))))
    simp only [sFrzD, sFldO]
    rfl
  exact runI_ok (r := Z0) rfl rfl m
end P

namespace P
open PySem PyProof.Rows L2 DL
inductive Pln : Nat → D → Prop
  | o (n : Nat) (d : D) : gIsiLT d = some (.bl false) → gIsi .int d = some (.bl false) → gIsi3 d = some (.bl false) → gEqX d d = some (.bl true) → Pln (n + 1) d
  | int (n : Nat) (i : Int) : Pln (n + 1) (.int i)
  | lst (n : Nat) (l : List D) : l.length ≤ 16777216 → (∀ d ∈ l, Pln n d) → Pln (n + 1) (.lst l)
  | tup (n : Nat) (l : List D) : l.length ≤ 16777216 → (∀ d ∈ l, Pln n d) → Pln (n + 1) (.tup l)
theorem same_ok : ∀ {n : Nat} {d : D}, Pln n d → F_law_same n [d, d] = .ok (.bl true)
  | _, _, .int n i => by
    show runF (M_law_same (F_law_same n)) 2 2 [.int i, .int i] = _
    have eb : gEq (.bl false) (.bl false) = some (.bl true) := by kernel_rfl
    have ei : gEqX (.int i) (.int i) = some (.bl true) := by rw [gEqX_ok rfl rfl]; simp
    simp [runF, M_law_same, gIsi, gIsiLT, isT, eb, ei]
  | _, _, .o n d h1 h2 h3 h4 => by
    show runF (M_law_same (F_law_same n)) 2 2 [d, d] = _
    simp [runF, M_law_same, h1, h2, h3, h4, gIsB]
  | _, _, .lst n l hl h => by
    let Z : DEnv := [.dat (.lst l), .dat (.lst l), .un, .un]
    have lc : (mLc (mIt zipOf (aCons (mV 0) (aCons (mV 1) aNil))) (gTup2 2 (gsCons (gN 2) (gsCons (gN 3) gsNil))) mYes (mCall (F_law_same n) (aCons (mV 2) (aCons (mV 3) aNil))) [2, 3]) Z = .ok (l.map fun _ => .bl true) Z := by
      refine mLc_all (l := l) (fun d => .tup [d, d]) (fun _ => .bl true) ?_ rfl hl fun d hd => ⟨[.dat (.lst l), .dat (.lst l), .dat d, .dat d], rfl, rfl, rfl, call_ok rfl (same_ok (h d hd))⟩
      rw [← zip_self]
      rfl
    have ga : gAll (.lst (l.map fun _ => .bl true)) = some (.bl true) := by
      rw [all_map (fun _ => true)]; simp
    have t : (mAnd (mOp gEq (mAgs (b1 gLen) (aCons (mV 0) aNil)) (mAgs (b1 gLen) (aCons (mV 1) aNil))) (mAgs (b1 gAll) (aCons (mFrz (mLc (mIt zipOf (aCons (mV 0) (aCons (mV 1) aNil))) (gTup2 2 (gsCons (gN 2) (gsCons (gN 3) gsNil))) mYes (mCall (F_law_same n) (aCons (mV 2) (aCons (mV 3) aNil))) [2, 3])) aNil))) Z = .ok (.bl true) Z :=
      and_ok (x := true) (y := true) (op_ok (x := .int l.length) (y := .int l.length) rfl rfl (by simp)) (fun _ => ags1_ok (frz_ok lc) ga) (fun h => by cases h)
    exact run_rt (r := Z) (r' := Z) rfl rfl (seq_rt (if_t (r1 := Z) rfl (seq_nx (r1 := Z) rfl (ret_ok t))))
  | _, _, .tup n l hl h => by
    let Z : DEnv := [.dat (.tup l), .dat (.tup l), .un, .un]
    have lc : (mLc (mIt zipOf (aCons (mV 0) (aCons (mV 1) aNil))) (gTup2 2 (gsCons (gN 2) (gsCons (gN 3) gsNil))) mYes (mCall (F_law_same n) (aCons (mV 2) (aCons (mV 3) aNil))) [2, 3]) Z = .ok (l.map fun _ => .bl true) Z := by
      refine mLc_all (l := l) (fun d => .tup [d, d]) (fun _ => .bl true) ?_ rfl hl fun d hd => ⟨[.dat (.tup l), .dat (.tup l), .dat d, .dat d], rfl, rfl, rfl, call_ok rfl (same_ok (h d hd))⟩
      rw [← zip_self]
      rfl
    have ga : gAll (.lst (l.map fun _ => .bl true)) = some (.bl true) := by
      rw [all_map (fun _ => true)]; simp
    have t : (mAnd (mOp gEq (mAgs (b1 gLen) (aCons (mV 0) aNil)) (mAgs (b1 gLen) (aCons (mV 1) aNil))) (mAgs (b1 gAll) (aCons (mFrz (mLc (mIt zipOf (aCons (mV 0) (aCons (mV 1) aNil))) (gTup2 2 (gsCons (gN 2) (gsCons (gN 3) gsNil))) mYes (mCall (F_law_same n) (aCons (mV 2) (aCons (mV 3) aNil))) [2, 3])) aNil))) Z = .ok (.bl true) Z :=
      and_ok (x := true) (y := true) (op_ok (x := .int l.length) (y := .int l.length) rfl rfl (by simp)) (fun _ => ags1_ok (frz_ok lc) ga) (fun h => by cases h)
    exact run_rt (r := Z) (r' := Z) rfl rfl (seq_rt (if_t (r1 := Z) rfl (seq_nx (r1 := Z) rfl (ret_ok t))))
end P

namespace P
open PySem PyProof.Rows L2 DL
/-! ### sums as words -/
theorem some_sum_ok (k : Int) {d : Int} (h0 : 0 ≤ d) (h1 : d < 8) : ∃ a b, Wd a b ∧ F_law_some_sum [.int d, .int k] = .ok a := by
  have : d = 0 ∨ d = 1 ∨ d = 2 ∨ d = 3 ∨ d = 4 ∨ d = 5 ∨ d = 6 ∨ d = 7 := by omega
  rcases this with rfl | rfl | rfl | rfl | rfl | rfl | rfl | rfl
  · exact ⟨_, _, .s0 k, by kernel_rfl⟩
  · exact ⟨_, _, .s1, by kernel_rfl⟩
  · exact ⟨_, _, .s2, by kernel_rfl⟩
  · exact ⟨_, _, .s3, by kernel_rfl⟩
  · exact ⟨_, _, .s4 k, by kernel_rfl⟩
  · exact ⟨_, _, .s5, by kernel_rfl⟩
  · exact ⟨_, _, .s6, by kernel_rfl⟩
  · exact ⟨_, _, .i k, by kernel_rfl⟩
/-- rows alike but for their words -/
inductive Alike : Row → Row → Prop
  | same (r : Row) : Alike r r
  | w (q q' : D × D) (l : List (D × D)) : Wd q'.1 q'.2 → Alike (.w (q :: l)) (.w (q' :: l))
theorem Alike.okL {ev : Bool} {r r' : Row} (h : Alike r r') (ho : P.okL ev r) : P.okL ev r' := by
  cases h with
  | same => exact ho
  | w q q' l hw =>
    obtain ⟨h1, h2⟩ := ho
    refine ⟨by simpa using h1, fun x hx => ?_⟩
    rcases List.mem_cons.mp hx with rfl | hx
    · exact hw
    · exact h2 x (List.mem_cons_of_mem _ hx)
theorem Alike.sh {r r' : Row} (h : Alike r r') : r'.isL = r.isL ∧ r'.name = r.name ∧ (r.good → r'.good) := by
  cases h with
  | same => exact ⟨rfl, rfl, id⟩
  | w q q' l hw => exact ⟨rfl, rfl, id⟩
theorem cut1 (x : D) (l : List D) : DL.cutD (x :: l) (some 1) none = l := by
  have h : HT.sIx (x :: l).length 0 (some (1 : Int)) = 1 := by
    rw [show (some (1 : Int)) = some ((1 : Nat) : Int) from rfl, HT.sIx_nat]
    simp
  unfold DL.cutD
  rw [h]
  simp only [HT.sIx, List.drop_succ_cons, List.drop_zero, List.length_cons, Nat.add_sub_cancel]
  exact List.take_of_length_le (by omega)
theorem with_turn {R : D} {ds : List Int} {k : Nat} {dk : Int} (hd : ds[k]? = some dk) (h0 : 0 ≤ dk) (h1 : dk < 8) {r : Row} {out : List Row} (ho : out.length < 1000) (hr : okL true r) :
    ∃ r', Alike r r' ∧ M_law_with_sums_b1 [.dat R, .dat (.lst (iL ds)), .own false (out.map Row.d), .dat (.int k), .dat r.d] = .nx [.dat R, .dat (.lst (iL ds)), .own false ((out ++ [r']).map Row.d), .dat (.int k), .dat r'.d] := by
  have ln : (out.map Row.d).length < 16777216 := by simp; omega
  have ap : ∀ r : Row, out.map Row.d ++ [r.d] = (out ++ [r]).map Row.d := fun r => by simp
  have plain : ∀ r : Row, (mAnd (mOp gEq (mOp gSub (mV 4) (mC (.int 0))) (mC (.str "words"))) (mOp iGt (mAgs (b1 gLen) (aCons (mOp gSub (mV 4) (mC (.int 1))) aNil)) (mC (.int 0)))) [.dat R, .dat (.lst (iL ds)), .own false (out.map Row.d), .dat (.int k), .dat r.d] = .ok (.bl false) [.dat R, .dat (.lst (iL ds)), .own false (out.map Row.d), .dat (.int k), .dat r.d] →
      M_law_with_sums_b1 [.dat R, .dat (.lst (iL ds)), .own false (out.map Row.d), .dat (.int k), .dat r.d] = .nx [.dat R, .dat (.lst (iL ds)), .own false ((out ++ [r]).map Row.d), .dat (.int k), .dat r.d] := fun r h => by
    rw [← ap]
    exact seq_nx (if_f h rfl) (app_ok rfl rfl ln)
  cases r with
  | e m => exact ⟨_, .same _, plain _ (by simp [Row.d])⟩
  | b c l x => exact ⟨_, .same _, plain _ (by simp [Row.d])⟩
  | lb l => exact ⟨_, .same _, plain _ (by simp [Row.d])⟩
  | w l =>
    cases l with
    | nil => exact ⟨_, .same _, plain _ (by simp [Row.d])⟩
    | cons q l =>
      obtain ⟨a, b, hw, e⟩ := some_sum_ok (k : Int) h0 h1
      refine ⟨.w ((a, b) :: l), .w q (a, b) l hw, ?_⟩
      have t : (mAnd (mOp gEq (mOp gSub (mV 4) (mC (.int 0))) (mC (.str "words"))) (mOp iGt (mAgs (b1 gLen) (aCons (mOp gSub (mV 4) (mC (.int 1))) aNil)) (mC (.int 0)))) [.dat R, .dat (.lst (iL ds)), .own false (out.map Row.d), .dat (.int k), .dat (Row.w (q :: l)).d] = .ok (.bl true) [.dat R, .dat (.lst (iL ds)), .own false (out.map Row.d), .dat (.int k), .dat (Row.w (q :: l)).d] := by
        simp [Row.d]
      rw [← ap]
      have c1 : mCall F_law_some_sum (aCons (mOp gSub (mV 1) (mV 3)) (aCons (mV 3) aNil)) [.dat R, .dat (.lst (iL ds)), .own false (out.map Row.d), .dat (.int k), .dat (Row.w (q :: l)).d] = .ok a [.dat R, .dat (.lst (iL ds)), .own false (out.map Row.d), .dat (.int k), .dat (Row.w (q :: l)).d] := by
        refine call_ok (ds := [.int dk, .int k]) (acons_ok (op_ok (x := .lst (iL ds)) (y := .int k) rfl rfl ?_) (acons_ok rfl rfl)) e
        show atI (iL ds) (k : Int) = _
        rw [DL.atI_nat, iL, List.getElem?_map, hd]
        rfl
      have c2 : (mSl (mOp gSub (mV 4) (mC (.int 1))) (mInt (mC (.int 1))) (mC .non)) [.dat R, .dat (.lst (iL ds)), .own false (out.map Row.d), .dat (.int k), .dat (Row.w (q :: l)).d] = .ok (.lst (l.map (·.1))) [.dat R, .dat (.lst (iL ds)), .own false (out.map Row.d), .dat (.int k), .dat (Row.w (q :: l)).d] := by
        have : gSl (.lst (q.1 :: l.map (·.1))) (some 1) none = some (.lst (l.map (·.1))) := by
          simp only [gSl, cut1]
        show optE (gSl (.lst (q.1 :: l.map (·.1))) (some 1) none) _ = _
        rw [this]
        rfl
      have lo := hr.1
      simp only [List.length_cons] at lo
      have c3 : gAdd (.lst [a]) (.lst (l.map (·.1))) = some (.lst (a :: l.map (·.1))) := by
        simp
        omega
      refine seq_nx (if_t t (asg_ok (tup2_ok rfl (op_ok (lst_ok (acons_ok c1 rfl) (by simp)) (ags1_ok c2 rfl) c3)))) ?_
      exact app_ok rfl rfl ln
theorem with_loop {R : D} {ds : List Int} (hd : ∀ i d, ds[i]? = some d → i < 16 → 0 ≤ d ∧ d < 8) (hl : 16 ≤ ds.length) : ∀ (rs : List Row) (k : Nat) (out : List Row) (x y : Sl), k + rs.length ≤ 16 → out.length + rs.length < 1000 → (∀ r ∈ rs, okL true r) →
    ∃ (rs' : List Row) (x' y' : Sl), forL (gTup2 2 (gsCons (gN 3) (gsCons (gN 4) gsNil))) M_law_with_sums_b1 (enumF k (rs.map Row.d)) [.dat R, .dat (.lst (iL ds)), .own false (out.map Row.d), x, y] = .nx [.dat R, .dat (.lst (iL ds)), .own false ((out ++ rs').map Row.d), x', y'] ∧ Paired Alike rs rs'
  | [], k, out, x, y, _, _, _ => ⟨[], x, y, by simp [forL, enumF], .nil⟩
  | r :: rs, k, out, x, y, h1, h2, h3 => by
    simp only [List.length_cons] at h1 h2
    have hk : k < ds.length := by omega
    obtain ⟨d0, d1⟩ := hd k ds[k] (by simp [hk]) (by omega)
    obtain ⟨r', ha, t⟩ := with_turn (R := R) (ds := ds) (k := k) (by simp [hk]) d0 d1 (out := out) (by omega) (h3 r (by simp))
    obtain ⟨rs', x', y', e, hs⟩ := with_loop (R := R) hd hl rs (k + 1) (out ++ [r']) (.dat (.int k)) (.dat r'.d) (by omega) (by simp; omega) (fun r hr => h3 r (by simp [hr]))
    refine ⟨r' :: rs', x', y', ?_, .cons ha hs⟩
    simp only [List.map_cons, enumF]
    refine forL_cons (r1 := [.dat R, .dat (.lst (iL ds)), .own false (out.map Row.d), .dat (.int k), .dat r.d]) ?_ t ?_
    · simp
    · simpa using e
theorem alike_names : ∀ {rs rs' : List Row}, Paired Alike rs rs' → (rs'.filter Row.isL).map Row.name = (rs.filter Row.isL).map Row.name ∧ rs'.length = rs.length
  | _, _, .nil => ⟨rfl, rfl⟩
  | _, _, .cons h t => by
    obtain ⟨i1, i2⟩ := alike_names t
    obtain ⟨a, b, _⟩ := h.sh
    refine ⟨?_, by simp [i2]⟩
    simp only [List.filter_cons, a]
    split
    · simp only [List.map_cons, b, i1]
    · exact i1
theorem alike_mem : ∀ {rs rs' : List Row} {r' : Row}, Paired Alike rs rs' → r' ∈ rs' → ∃ r ∈ rs, Alike r r'
  | _, _, _, .nil, h => by cases h
  | _, _, _, .cons h t, hm => by
    rcases List.mem_cons.mp hm with rfl | hm
    · exact ⟨_, by simp, h⟩
    · obtain ⟨r, a, b⟩ := alike_mem t hm
      exact ⟨r, by simp [a], b⟩
theorem alike_lab : ∀ {rs rs' : List Row} {l : Str}, Paired Alike rs rs' → Row.lb l ∈ rs → Row.lb l ∈ rs'
  | _, _, _, .nil, h => by cases h
  | _, _, _, .cons h t, hm => by
    rcases List.mem_cons.mp hm with rfl | hm
    · cases h; simp
    · simp [alike_lab t hm]
theorem with_sums_ok {rs : List Row} (h : Dft true rs) {ds : List Int} (hd : ∀ i d, ds[i]? = some d → i < 16 → 0 ≤ d ∧ d < 8) (hl : 16 ≤ ds.length) : ∃ rs', F_law_with_sums [.lst (rs.map Row.d), .lst (iL ds)] = .ok (.lst (rs'.map Row.d)) ∧ Dft true rs' := by
  have ln := h.ln
  obtain ⟨rs', x', y', e, al⟩ := with_loop (R := .lst (rs.map Row.d)) hd hl rs 0 [] .un .un (by omega) (by simp; omega) h.ok
  obtain ⟨n1, n2⟩ := alike_names al
  refine ⟨rs', ?_, ⟨⟨fun r hr => ?_, by rw [n2]; exact h.g.len, by rw [spots_names, n1, ← spots_names]; exact h.g.nod⟩, by rw [n2]; exact ln, fun l hl => alike_lab al (h.al l hl), fun r hr => ?_⟩⟩
  · have it : (mIt enumOf (aCons (mV 0) aNil)) [.dat (.lst (rs.map Row.d)), .dat (.lst (iL ds)), .own false [], .un, .un] = .ok (enumF 0 (rs.map Row.d)) [.dat (.lst (rs.map Row.d)), .dat (.lst (iL ds)), .own false [], .un, .un] := by
      rw [← enumD_F]
      rfl
    exact run_rt (r := [.dat (.lst (rs.map Row.d)), .dat (.lst (iL ds)), .un, .un, .un]) rfl rfl (seq_nx rfl (seq_nx (for_nx it e) rfl))
  · obtain ⟨r0, m, a⟩ := alike_mem al hr
    exact a.sh.2.2 (h.g.good r0 m)
  · obtain ⟨r0, m, a⟩ := alike_mem al hr
    exact a.okL (h.ok r0 m)
end P

namespace P
open PySem PyProof.Rows L2 DL
/-! ### choices looked at -/
theorem intsD_iL (l : List Int) : intsD (iL l) = some l := by
  induction l with
  | nil => rfl
  | cons i l ih => simp only [iL, List.map_cons, intsD] at ih ⊢; rw [ih]; rfl
theorem is_int_ok (i : Int) : F_is_integer [.int i] = .ok (.bl true) := by kernel_rfl
theorem list_InC {cd : D} {c : List Int} (h : InC cd c) : F_is_list [cd] = .ok (.bl true) := by
  rcases h with rfl | rfl <;> kernel_rfl
theorem iter_InC {cd : D} {c : List Int} (h : InC cd c) : iterD cd = some (iL c) := by
  rcases h with rfl | rfl <;> rfl
theorem len_InC {cd : D} {c : List Int} (h : InC cd c) : gLen cd = some (.int c.length) := by
  rcases h with rfl | rfl <;> simp [iL]
theorem set_InC {cd : D} {c : List Int} (h : InC cd c) (hl : c.length ≤ 1000) : gLenSet cd = some (.int (dd c).length) := by
  rcases h with rfl | rfl <;> simp [gLenSet, intsD_iL, hl]
theorem sort_InC {cd : D} {c : List Int} (h : InC cd c) (hl : c.length ≤ 1000) : gSortG cd = some (.lst (iL (srt c))) := by
  rcases h with rfl | rfl
  · exact sort_l c hl
  · exact sort_t c hl
theorem all_true_map {α : Type} (l : List α) : gAll (.lst (l.map fun _ => .bl true)) = some (.bl true) := by
  rw [all_map (fun _ => true)]; simp
structure Chc (rs : List Row) (c : List Int) : Prop where
  sub : ∀ k ∈ c, k ∈ brs rs
  nod : c.Nodup
  out : ∀ k ∈ outs rs, k ∈ c
  srt : c.Pairwise (· ≤ ·)
theorem Chc.len {rs : List Row} {c : List Int} (h : Chc rs c) : c.length ≤ rs.length :=
  Nat.le_trans (List.Nodup.length_le_of_subset h.nod h.sub) (brs_len rs)
theorem checked_ok {rs : List Row} (g : Good rs) {cd : D} {c : List Int} (hc : InC cd c) (h : Chc rs c) : F_Draft_checked [dr rs, cd] = .ok (.tup (iL c)) := by
  have hl : c.length ≤ 1000 := by have := h.len; have := g.len; omega
  let R0 : DEnv := [.dat (dr rs), .dat cd, .un, .un]
  let R1 : DEnv := [.dat (dr rs), .dat cd, .dat (.tup (iL (brs rs))), .un]
  have s1 : sAsg 2 (mMeth "Draft" "branches" F_Draft_branches (mV 0) aNil) R0 = .nx R1 := asg_ok (meth_ok rfl ob1 rfl (branches_ok g.len))
  have lc1 : (mLc (mIter (mV 1)) (gN 3) mYes (mAnd (mCall F_is_integer (aCons (mV 3) aNil)) (mOp gInG (mV 3) (mV 2))) [3]) R1 = .ok (c.map fun _ => .bl true) R1 :=
    mLc_all (l := c) .int (fun _ => .bl true) (iter_ok rfl (iter_InC hc)) rfl (by omega) fun k hk => ⟨[.dat (dr rs), .dat cd, .dat (.tup (iL (brs rs))), .dat (.int k)], rfl, rfl, rfl, and_t (call_ok rfl (is_int_ok k)) (op_ok rfl rfl (by
      rw [inI (.inr rfl)]
      simp [h.sub k hk]))⟩
  have lc2 : (mLc (mIter (mMeth "Draft" "out" F_Draft_out (mV 0) aNil)) (gN 3) mYes (mOp gInG (mV 3) (mV 1)) [3]) R1 = .ok ((outs rs).map fun _ => .bl true) R1 :=
    mLc_all (l := outs rs) .int (fun _ => .bl true) (iter_ok (meth_ok rfl ob7 rfl (out_ok g)) rfl) rfl (by have := outs_len rs; have := g.len; omega) fun k hk => ⟨[.dat (dr rs), .dat cd, .dat (.tup (iL (brs rs))), .dat (.int k)], rfl, rfl, rfl, op_ok rfl rfl (by
      rw [inI hc]
      simp [h.out k hk])⟩
  refine run_rt (r := R0) (r' := R1) rfl rfl (seq_nx s1 (seq_nx (r1 := R1) ?_ (seq_nx (r1 := R1) ?_ ?_)))
  · exact if_f (or_f (not_ok (x := true) (call_ok rfl (list_InC hc))) (not_ok (x := true) (ags1_ok (frz_ok lc1) (all_true_map _)))) rfl
  · exact if_f (or_f (op_ok (un_ok rfl (set_InC hc hl)) (ags1_ok rfl (len_InC hc)) (by simp [dd_self h.nod])) (not_ok (x := true) (ags1_ok (frz_ok lc2) (all_true_map _)))) rfl
  · refine ret_ok (ags1_ok (ags1_ok rfl (sort_InC hc hl)) ?_)
    rw [srt_self h.srt]
    rfl
end P

namespace P
open PySem PyProof.Rows L2 DL
/-! ### sums put in -/
def un (s : Str) : D := .tup [.str "name", .str s]
def pu (s : Str) : D := .tup [.str "piece", .str s]
theorem dgetF_ok {m mk md : ME} {r : DEnv} {t : Bool} {es : List (D × D)} {y z : D} {o : Option D} (h : m r = .ok (.dct t es) r) (hk : mk r = .ok y r) (hd : md r = .ok z r) (hl : lookT t es y = some o) : mDGetF m mk md r = .ok (o.getD z) r := by
  simp only [mDGetF, h, hk, hd, hl]
theorem put_turn {es : List (D × D)} {B f f' u : D} {m : Int} {o : Option D} (hl : lookT true es u = some o) (ha : F_added [f, o.getD (sm 0 [.tup [u, .int 1]]), .int m] = .ok f') :
    M_put_b1 [.dat B, .dat (.dct true es), .dat f, .dat u, .dat (.int m)] = .nx [.dat B, .dat (.dct true es), .dat f', .dat u, .dat (.int m)] :=
  asg_ok (r1 := [.dat B, .dat (.dct true es), .dat f, .dat u, .dat (.int m)]) (call_ok (acons_ok rfl (acons_ok (dgetF_ok rfl rfl rfl hl) (acons_ok rfl rfl))) ha)
theorem put_0 (n : Int) (es : List (D × D)) : F_put [sm n [], .dct true es] = .ok (sm n []) := by kernel_rfl
theorem put_1 {es : List (D × D)} {n m1 : Int} {u1 f1 : D} {o1 : Option D} (h1 : lookT true es u1 = some o1) (a1 : F_added [sm n [], o1.getD (sm 0 [.tup [u1, .int 1]]), .int m1] = .ok f1) : F_put [sm n [.tup [u1, .int m1]], .dct true es] = .ok f1 :=
  run_rt (r := [.dat (sm n [.tup [u1, .int m1]]), .dat (.dct true es), .un, .un, .un]) rfl rfl (seq_nx rfl (seq_nx (for_nx (iter_ok (op_ok rfl rfl rfl) rfl) (forL_cons rfl (put_turn h1 a1) forL_nil)) rfl))
theorem put_2 {es : List (D × D)} {n m1 m2 : Int} {u1 u2 f1 f2 : D} {o1 o2 : Option D} (h1 : lookT true es u1 = some o1) (a1 : F_added [sm n [], o1.getD (sm 0 [.tup [u1, .int 1]]), .int m1] = .ok f1) (h2 : lookT true es u2 = some o2) (a2 : F_added [f1, o2.getD (sm 0 [.tup [u2, .int 1]]), .int m2] = .ok f2) : F_put [sm n [.tup [u1, .int m1], .tup [u2, .int m2]], .dct true es] = .ok f2 :=
  run_rt (r := [.dat (sm n [.tup [u1, .int m1], .tup [u2, .int m2]]), .dat (.dct true es), .un, .un, .un]) rfl rfl (seq_nx rfl (seq_nx (for_nx (iter_ok (op_ok rfl rfl rfl) rfl) (forL_cons rfl (put_turn h1 a1) (forL_cons rfl (put_turn h2 a2) forL_nil))) rfl))
/-- one more multiple of an unknown -/
def more (fs : List (D × D)) (key : D) (m : Int) : Option (List (D × D)) := match lookT true fs key with
  | some o => (match o.getD (.int 0) with
    | .int v => putT true fs key (.int (v + m))
    | _ => none)
  | none => none
theorem more_ok {i : Nat} {r : DEnv} {fs fs' : List (D × D)} {key : D} {m : Int} {mk mm : ME} (hi : r[i]? = some (.ownD true fs)) (hk : mk r = .ok key r) (hm : mm r = .ok (.int m) r) (h : more fs key m = some fs') (hl : fs.length < 16777216) : sDPutX i mk (mOp gAdd (mDGetO i mk (mC (.int 0))) mm) r = .nx (r.set i (.ownD true fs')) := by
  unfold more at h
  cases e : lookT true fs key with
  | none => rw [e] at h; cases h
  | some o =>
    rw [e] at h
    simp only at h
    have g : mDGetO i mk (mC (.int 0)) r = .ok (o.getD (.int 0)) r := by simp only [mDGetO, hi, hk, mC, e]
    cases e2 : o.getD (.int 0) <;> rw [e2] at h g <;> first | (cases h; done) | skip
    rename_i v
    exact dputX_ok (op_ok g hm rfl) hi hk h hl
theorem law_lab {A : D} {ls fs fs' : List (D × D)} {p s : Str} {n m x : Int} (hx : lookT false ls (.str s) = some (some (.int x))) (hm : (decide (-(2 ^ 64) < m) && decide (m < 2 ^ 64)) = true) (hf : more fs (pu p) m = some fs') (hl : fs.length < 1000) :
    M_law_put_in_b1 [.dat A, .dat (.dct false ls), .dat (.str p), .dat (.int n), .ownD true fs, .dat (un s), .dat (.int m)] = .nx [.dat A, .dat (.dct false ls), .dat (.str p), .dat (.int (n + m * x)), .ownD true fs', .dat (pu p), .dat (.int m)] := by
  have i1 : gInG (.str s) (.dct false ls) = some (.bl true) := by
    show (lookT false ls (.str s)).map (fun o => D.bl o.isSome) = _
    rw [hx]; rfl
  have i2 : gSub (.dct false ls) (.str s) = some (.int x) := by
    show (lookT false ls (.str s)).bind id = _
    rw [hx]; rfl
  have t : (mAnd (mOp gEq (mOp gSub (mV 5) (mC (.int 0))) (mC (.str "name"))) (mOp gInG (mOp gSub (mV 5) (mC (.int 1))) (mV 1))) [.dat A, .dat (.dct false ls), .dat (.str p), .dat (.int n), .ownD true fs, .dat (un s), .dat (.int m)] = .ok (.bl true) [.dat A, .dat (.dct false ls), .dat (.str p), .dat (.int n), .ownD true fs, .dat (un s), .dat (.int m)] :=
    and_t (op_ok (op_ok rfl rfl rfl) rfl (by kernel_rfl : gEq (.str "name") (.str "name") = some (.bl true))) (op_ok (op_ok rfl rfl rfl) rfl i1)
  refine seq_nx (r1 := [.dat A, .dat (.dct false ls), .dat (.str p), .dat (.int (n + m * x)), .ownD true fs, .dat (pu p), .dat (.int m)]) (if_t t (seq_nx (asg_ok (op_ok rfl (op_ok rfl (op_ok rfl (op_ok rfl rfl rfl) i2) (isv_mul hm)) rfl)) (asg_ok (tup2_ok rfl rfl)))) ?_
  exact more_ok rfl rfl rfl hf (by omega)
theorem law_oth {A u : D} {ls fs fs' : List (D × D)} {p : Str} {n m : Int} (hu : (mAnd (mOp gEq (mOp gSub (mV 5) (mC (.int 0))) (mC (.str "name"))) (mOp gInG (mOp gSub (mV 5) (mC (.int 1))) (mV 1))) [.dat A, .dat (.dct false ls), .dat (.str p), .dat (.int n), .ownD true fs, .dat u, .dat (.int m)] = .ok (.bl false) [.dat A, .dat (.dct false ls), .dat (.str p), .dat (.int n), .ownD true fs, .dat u, .dat (.int m)]) (hf : more fs u m = some fs') (hl : fs.length < 1000) :
    M_law_put_in_b1 [.dat A, .dat (.dct false ls), .dat (.str p), .dat (.int n), .ownD true fs, .dat u, .dat (.int m)] = .nx [.dat A, .dat (.dct false ls), .dat (.str p), .dat (.int n), .ownD true fs', .dat u, .dat (.int m)] :=
  seq_nx (if_f hu rfl) (more_ok rfl rfl rfl hf (by omega))
theorem oth_p {A : D} {x : Str} {ls fs : List (D × D)} {p : Str} {n m : Int} : (mAnd (mOp gEq (mOp gSub (mV 5) (mC (.int 0))) (mC (.str "name"))) (mOp gInG (mOp gSub (mV 5) (mC (.int 1))) (mV 1))) [.dat A, .dat (.dct false ls), .dat (.str p), .dat (.int n), .ownD true fs, .dat (pu x), .dat (.int m)] = .ok (.bl false) [.dat A, .dat (.dct false ls), .dat (.str p), .dat (.int n), .ownD true fs, .dat (pu x), .dat (.int m)] :=
  and_f (op_ok (op_ok rfl rfl rfl) rfl (by kernel_rfl : gEq (.str "piece") (.str "name") = some (.bl false)))
theorem oth_n {A : D} {s : Str} {ls fs : List (D × D)} {p : Str} {n m : Int} (h : lookT false ls (.str s) = some none) : (mAnd (mOp gEq (mOp gSub (mV 5) (mC (.int 0))) (mC (.str "name"))) (mOp gInG (mOp gSub (mV 5) (mC (.int 1))) (mV 1))) [.dat A, .dat (.dct false ls), .dat (.str p), .dat (.int n), .ownD true fs, .dat (un s), .dat (.int m)] = .ok (.bl false) [.dat A, .dat (.dct false ls), .dat (.str p), .dat (.int n), .ownD true fs, .dat (un s), .dat (.int m)] := by
  have i1 : gInG (.str s) (.dct false ls) = some (.bl false) := by
    show (lookT false ls (.str s)).map (fun o => D.bl o.isSome) = _
    rw [h]; rfl
  exact and_t (op_ok (op_ok rfl rfl rfl) rfl (by kernel_rfl : gEq (.str "name") (.str "name") = some (.bl true))) (op_ok (op_ok rfl rfl rfl) rfl i1)
theorem law_run {n : Int} {l : List D} {ls : List (D × D)} {p : Str} {n' : Int} {fs : List (D × D)} {x y : Sl} {o : D} (h : forL (gTup2 2 (gsCons (gN 5) (gsCons (gN 6) gsNil))) M_law_put_in_b1 l [.dat (sm n l), .dat (.dct false ls), .dat (.str p), .dat (.int n), .ownD true [], .un, .un] = .nx [.dat (sm n l), .dat (.dct false ls), .dat (.str p), .dat (.int n'), .ownD true fs, x, y])
    (ht : F_law_told_sum [.int n', .dct true fs] = .ok o) : F_law_put_in [sm n l, .dct false ls, .str p] = .ok o := by
  exact run_rt (r := [.dat (sm n l), .dat (.dct false ls), .dat (.str p), .un, .un, .un, .un]) rfl rfl (seq_nx (r1 := [.dat (sm n l), .dat (.dct false ls), .dat (.str p), .un, .un, .un, .un]) rfl (seq_nx (r1 := [.dat (sm n l), .dat (.dct false ls), .dat (.str p), .dat (.int n), .ownD true [], .un, .un]) rfl (seq_nx (for_nx (iter_ok (op_ok rfl rfl rfl) rfl) h) (frzD_ok rfl (ret_ok (call_ok rfl ht))))))
structure Lbs (es ls : List (D × D)) (p : Str) (a b c d : Int) : Prop where
  wla : lookT true es (un "la") = some (some (sm a [us "piece" p 1]))
  wlb : lookT true es (un "lb") = some (some (sm b [us "piece" p 1]))
  wlc : lookT true es (un "lc") = some (some (sm c [us "piece" p 1]))
  wld : lookT true es (un "ld") = some (some (sm d [us "piece" p 1]))
  waw : lookT true es (un "away") = some none
  wpm : lookT true es (pu "m") = some none
  wpo : lookT true es (pu "other") = some none
  lla : lookT false ls (.str "la") = some (some (.int a))
  llb : lookT false ls (.str "lb") = some (some (.int b))
  llc : lookT false ls (.str "lc") = some (some (.int c))
  lld : lookT false ls (.str "ld") = some (some (.int d))
  law : lookT false ls (.str "away") = some none
end P

namespace P
open PySem PyProof.Rows L2 DL
theorem k_piece : PyData.strOk "piece" = true := by kernel_rfl
theorem k_name : PyData.strOk "name" = true := by kernel_rfl
theorem k_m : PyData.strOk "m" = true := by kernel_rfl
theorem k_code : PyData.strOk "code" = true := by kernel_rfl
theorem k_la : PyData.strOk "la" = true := by kernel_rfl
theorem k_lb : PyData.strOk "lb" = true := by kernel_rfl
theorem k_lc : PyData.strOk "lc" = true := by kernel_rfl
theorem k_ld : PyData.strOk "ld" = true := by kernel_rfl
theorem k_away : PyData.strOk "away" = true := by kernel_rfl
theorem k_other : PyData.strOk "other" = true := by kernel_rfl
theorem pln_str (n : Nat) {s : Str} (h : PyData.strOk s = true) : Pln (n + 1) (.str s) := by
  have o : okEq (.str s) = true := by simp [okEq, SeqAt.shaped, toP, PyData.canLay0, PyData.depth, h]
  exact .o n _ rfl rfl rfl (by rw [gEqX_ok o o]; exact gEq_self o)
theorem pln_us (n : Nat) {k s : Str} (m : Int) (hk : PyData.strOk k = true) (hs : PyData.strOk s = true) : Pln (n + 3) (us k s m) := .tup _ _ (by simp) fun d hd => by
  simp only [List.mem_cons, List.not_mem_nil, or_false] at hd
  rcases hd with rfl | rfl
  · exact .tup _ _ (by simp) fun d hd => by
      simp only [List.mem_cons, List.not_mem_nil, or_false] at hd
      rcases hd with rfl | rfl
      · exact pln_str n hk
      · exact pln_str n hs
  · exact .int _ _
theorem pln_sm (n : Nat) (N : Int) {l : List D} (hl : l.length ≤ 1000) (h : ∀ x ∈ l, Pln (n + 3) x) : Pln (n + 5) (sm N l) := .tup _ _ (by simp) fun d hd => by
  simp only [List.mem_cons, List.not_mem_nil, or_false] at hd
  rcases hd with rfl | rfl
  · exact .int _ _
  · exact .tup _ _ (by omega) h
theorem pln_sm0 (n : Nat) (N : Int) : Pln (n + 5) (sm N []) := pln_sm n N (by simp) (fun x hx => by cases hx)
theorem pln_sm1 (n : Nat) (N : Int) {k s : Str} {m : Int} (hk : PyData.strOk k = true) (hs : PyData.strOk s = true) : Pln (n + 5) (sm N [us k s m]) := pln_sm n N (by simp) (fun x hx => by
  rw [List.mem_singleton] at hx; subst hx; exact pln_us n m hk hs)
theorem pln_sm2 (n : Nat) (N : Int) {k s k2 s2 : Str} {m m2 : Int} (hk : PyData.strOk k = true) (hs : PyData.strOk s = true) (hk2 : PyData.strOk k2 = true) (hs2 : PyData.strOk s2 = true) : Pln (n + 5) (sm N [us k s m, us k2 s2 m2]) := pln_sm n N (by simp) (fun x hx => by
  simp only [List.mem_cons, List.not_mem_nil, or_false] at hx
  rcases hx with rfl | rfl
  · exact pln_us n m hk hs
  · exact pln_us n m2 hk2 hs2)
def Same2 (es ls : List (D × D)) (p : Str) (a b : D) : Prop := ∃ o, F_put [b, .dct true es] = .ok o ∧ F_law_put_in [a, .dct false ls, .str p] = .ok o ∧ Pln 5 o
theorem same2 {es ls : List (D × D)} {p : Str} {a b : D} {N1 N2 : Int} {l : List D} (h1 : F_put [b, .dct true es] = .ok (sm N1 l)) (h2 : F_law_put_in [a, .dct false ls, .str p] = .ok (sm N2 l)) (e : N1 = N2) (hp : Pln 5 (sm N1 l)) : Same2 es ls p a b := ⟨_, h1, by rw [h2, e], hp⟩
variable {es ls : List (D × D)} {a b c d : Int}
theorem w_i (k : Int) (p : Str) : Same2 es ls p (.int k) (sm k []) := same2 (put_0 k es) (N2 := k) (by kernel_rfl) rfl (pln_sm0 0 k)
theorem w_0 (k : Int) (p : Str) : Same2 es ls p (sm k []) (sm k []) := same2 (put_0 k es) (N2 := k) (law_run forL_nil (by kernel_rfl)) rfl (pln_sm0 0 k)
theorem w_5 {p : Str} (L : Lbs es ls p a b c d) (hp : p = "m" ∨ p = "code" ∨ p = "la") : Same2 es ls p (sm 7 [us "name" "la" 1, us "name" "la" (-1)]) (sm 7 []) := by
  have e : (7 : Int) = 7 + 1 * a + (-1) * a := by omega
  rcases hp with rfl | rfl | rfl
  · exact same2 (put_0 7 es) (law_run (forL_cons rfl (law_lab (fs' := [(pu "m", .int 1)]) L.lla rfl (by kernel_rfl) (by simp)) (forL_cons rfl (law_lab (fs' := [(pu "m", .int 0)]) L.lla rfl (by kernel_rfl) (by simp)) forL_nil)) (by kernel_rfl)) e (pln_sm0 0 7)
  · exact same2 (put_0 7 es) (law_run (forL_cons rfl (law_lab (fs' := [(pu "code", .int 1)]) L.lla rfl (by kernel_rfl) (by simp)) (forL_cons rfl (law_lab (fs' := [(pu "code", .int 0)]) L.lla rfl (by kernel_rfl) (by simp)) forL_nil)) (by kernel_rfl)) e (pln_sm0 0 7)
  · exact same2 (put_0 7 es) (law_run (forL_cons rfl (law_lab (fs' := [(pu "la", .int 1)]) L.lla rfl (by kernel_rfl) (by simp)) (forL_cons rfl (law_lab (fs' := [(pu "la", .int 0)]) L.lla rfl (by kernel_rfl) (by simp)) forL_nil)) (by kernel_rfl)) e (pln_sm0 0 7)
theorem w_1 {p : Str} (L : Lbs es ls p a b c d) (hp : p = "m" ∨ p = "code" ∨ p = "la") : Same2 es ls p (sm 5 [us "name" "la" 1]) (sm 5 [us "name" "la" 1]) := by
  rcases hp with rfl | rfl | rfl
  · exact same2 (put_1 L.wla (f1 := sm (5 + 1 * a) [us "piece" "m" 1]) (by kernel_rfl)) (law_run (forL_cons rfl (law_lab (fs' := [(pu "m", .int 1)]) L.lla rfl (by kernel_rfl) (by simp)) forL_nil) (by kernel_rfl)) rfl (pln_sm1 0 _ k_piece k_m)
  · exact same2 (put_1 L.wla (f1 := sm (5 + 1 * a) [us "piece" "code" 1]) (by kernel_rfl)) (law_run (forL_cons rfl (law_lab (fs' := [(pu "code", .int 1)]) L.lla rfl (by kernel_rfl) (by simp)) forL_nil) (by kernel_rfl)) rfl (pln_sm1 0 _ k_piece k_code)
  · exact same2 (put_1 L.wla (f1 := sm (5 + 1 * a) [us "piece" "la" 1]) (by kernel_rfl)) (law_run (forL_cons rfl (law_lab (fs' := [(pu "la", .int 1)]) L.lla rfl (by kernel_rfl) (by simp)) forL_nil) (by kernel_rfl)) rfl (pln_sm1 0 _ k_piece k_la)
theorem w_2 {p : Str} (L : Lbs es ls p a b c d) (hp : p = "m" ∨ p = "code" ∨ p = "la") : Same2 es ls p (sm 0 [us "name" "lb" 2, us "name" "lc" (-1)]) (sm 0 [us "name" "lb" 2, us "name" "lc" (-1)]) := by
  rcases hp with rfl | rfl | rfl
  · exact same2 (put_2 L.wlb (f1 := sm (0 + 2 * b) [us "piece" "m" 2]) (by kernel_rfl) L.wlc (f2 := sm (0 + 2 * b + (-1) * c) [us "piece" "m" 1]) (by kernel_rfl)) (law_run (forL_cons rfl (law_lab (fs' := [(pu "m", .int 2)]) L.llb rfl (by kernel_rfl) (by simp)) (forL_cons rfl (law_lab (fs' := [(pu "m", .int 1)]) L.llc rfl (by kernel_rfl) (by simp)) forL_nil)) (by kernel_rfl)) rfl (pln_sm1 0 _ k_piece k_m)
  · exact same2 (put_2 L.wlb (f1 := sm (0 + 2 * b) [us "piece" "code" 2]) (by kernel_rfl) L.wlc (f2 := sm (0 + 2 * b + (-1) * c) [us "piece" "code" 1]) (by kernel_rfl)) (law_run (forL_cons rfl (law_lab (fs' := [(pu "code", .int 2)]) L.llb rfl (by kernel_rfl) (by simp)) (forL_cons rfl (law_lab (fs' := [(pu "code", .int 1)]) L.llc rfl (by kernel_rfl) (by simp)) forL_nil)) (by kernel_rfl)) rfl (pln_sm1 0 _ k_piece k_code)
  · exact same2 (put_2 L.wlb (f1 := sm (0 + 2 * b) [us "piece" "la" 2]) (by kernel_rfl) L.wlc (f2 := sm (0 + 2 * b + (-1) * c) [us "piece" "la" 1]) (by kernel_rfl)) (law_run (forL_cons rfl (law_lab (fs' := [(pu "la", .int 2)]) L.llb rfl (by kernel_rfl) (by simp)) (forL_cons rfl (law_lab (fs' := [(pu "la", .int 1)]) L.llc rfl (by kernel_rfl) (by simp)) forL_nil)) (by kernel_rfl)) rfl (pln_sm1 0 _ k_piece k_la)
theorem w_3 {p : Str} (L : Lbs es ls p a b c d) (hp : p = "m" ∨ p = "code" ∨ p = "la") : Same2 es ls p (sm (-3) [us "name" "away" 1, us "name" "la" (-1)]) (sm (-3) [us "name" "away" 1, us "name" "la" (-1)]) := by
  have e : (-3 : Int) + 1 * 0 + (-1) * a = -3 + (-1) * a := by omega
  rcases hp with rfl | rfl | rfl
  · exact same2 (put_2 L.waw (f1 := sm (-3 + 1 * 0) [us "name" "away" 1]) (by kernel_rfl) L.wla (f2 := sm (-3 + 1 * 0 + (-1) * a) [us "piece" "m" (-1), us "name" "away" 1]) (by kernel_rfl)) (law_run (forL_cons rfl (law_oth (fs' := [(un "away", .int 1)]) (oth_n L.law) (by kernel_rfl) (by simp)) (forL_cons rfl (law_lab (fs' := [(un "away", .int 1), (pu "m", .int (-1))]) L.lla rfl (by kernel_rfl) (by simp)) forL_nil)) (by kernel_rfl)) e (pln_sm2 0 _ k_piece k_m k_name k_away)
  · exact same2 (put_2 L.waw (f1 := sm (-3 + 1 * 0) [us "name" "away" 1]) (by kernel_rfl) L.wla (f2 := sm (-3 + 1 * 0 + (-1) * a) [us "piece" "code" (-1), us "name" "away" 1]) (by kernel_rfl)) (law_run (forL_cons rfl (law_oth (fs' := [(un "away", .int 1)]) (oth_n L.law) (by kernel_rfl) (by simp)) (forL_cons rfl (law_lab (fs' := [(un "away", .int 1), (pu "code", .int (-1))]) L.lla rfl (by kernel_rfl) (by simp)) forL_nil)) (by kernel_rfl)) e (pln_sm2 0 _ k_piece k_code k_name k_away)
  · exact same2 (put_2 L.waw (f1 := sm (-3 + 1 * 0) [us "name" "away" 1]) (by kernel_rfl) L.wla (f2 := sm (-3 + 1 * 0 + (-1) * a) [us "piece" "la" (-1), us "name" "away" 1]) (by kernel_rfl)) (law_run (forL_cons rfl (law_oth (fs' := [(un "away", .int 1)]) (oth_n L.law) (by kernel_rfl) (by simp)) (forL_cons rfl (law_lab (fs' := [(un "away", .int 1), (pu "la", .int (-1))]) L.lla rfl (by kernel_rfl) (by simp)) forL_nil)) (by kernel_rfl)) e (pln_sm2 0 _ k_piece k_la k_name k_away)
theorem w_4 {p : Str} (k : Int) (L : Lbs es ls p a b c d) (hp : p = "m" ∨ p = "code" ∨ p = "la") : Same2 es ls p (sm (2048 * k) [us "piece" "m" (-1), us "name" "ld" 1]) (sm (2048 * k) [us "piece" "m" (-1), us "name" "ld" 1]) := by
  have e : 2048 * k + (-1) * 0 + 1 * d = 2048 * k + 1 * d := by omega
  rcases hp with rfl | rfl | rfl
  · exact same2 (put_2 L.wpm (f1 := sm (2048 * k + (-1) * 0) [us "piece" "m" (-1)]) (by kernel_rfl) L.wld (f2 := sm (2048 * k + (-1) * 0 + 1 * d) []) (by kernel_rfl)) (law_run (forL_cons rfl (law_oth (fs' := [(pu "m", .int (-1))]) oth_p (by kernel_rfl) (by simp)) (forL_cons rfl (law_lab (fs' := [(pu "m", .int 0)]) L.lld rfl (by kernel_rfl) (by simp)) forL_nil)) (by kernel_rfl)) e (pln_sm0 0 _)
  · exact same2 (put_2 L.wpm (f1 := sm (2048 * k + (-1) * 0) [us "piece" "m" (-1)]) (by kernel_rfl) L.wld (f2 := sm (2048 * k + (-1) * 0 + 1 * d) [us "piece" "code" 1, us "piece" "m" (-1)]) (by kernel_rfl)) (law_run (forL_cons rfl (law_oth (fs' := [(pu "m", .int (-1))]) oth_p (by kernel_rfl) (by simp)) (forL_cons rfl (law_lab (fs' := [(pu "m", .int (-1)), (pu "code", .int 1)]) L.lld rfl (by kernel_rfl) (by simp)) forL_nil)) (by kernel_rfl)) e (pln_sm2 0 _ k_piece k_code k_piece k_m)
  · exact same2 (put_2 L.wpm (f1 := sm (2048 * k + (-1) * 0) [us "piece" "m" (-1)]) (by kernel_rfl) L.wld (f2 := sm (2048 * k + (-1) * 0 + 1 * d) [us "piece" "la" 1, us "piece" "m" (-1)]) (by kernel_rfl)) (law_run (forL_cons rfl (law_oth (fs' := [(pu "m", .int (-1))]) oth_p (by kernel_rfl) (by simp)) (forL_cons rfl (law_lab (fs' := [(pu "m", .int (-1)), (pu "la", .int 1)]) L.lld rfl (by kernel_rfl) (by simp)) forL_nil)) (by kernel_rfl)) e (pln_sm2 0 _ k_piece k_la k_piece k_m)
theorem w_6 {p : Str} (L : Lbs es ls p a b c d) (hp : p = "m" ∨ p = "code" ∨ p = "la") : Same2 es ls p (sm 1 [us "piece" "other" 3, us "name" "lb" 1]) (sm 1 [us "piece" "other" 3, us "name" "lb" 1]) := by
  have e : (1 : Int) + 3 * 0 + 1 * b = 1 + 1 * b := by omega
  rcases hp with rfl | rfl | rfl
  · exact same2 (put_2 L.wpo (f1 := sm (1 + 3 * 0) [us "piece" "other" 3]) (by kernel_rfl) L.wlb (f2 := sm (1 + 3 * 0 + 1 * b) [us "piece" "m" 1, us "piece" "other" 3]) (by kernel_rfl)) (law_run (forL_cons rfl (law_oth (fs' := [(pu "other", .int 3)]) oth_p (by kernel_rfl) (by simp)) (forL_cons rfl (law_lab (fs' := [(pu "other", .int 3), (pu "m", .int 1)]) L.llb rfl (by kernel_rfl) (by simp)) forL_nil)) (by kernel_rfl)) e (pln_sm2 0 _ k_piece k_m k_piece k_other)
  · exact same2 (put_2 L.wpo (f1 := sm (1 + 3 * 0) [us "piece" "other" 3]) (by kernel_rfl) L.wlb (f2 := sm (1 + 3 * 0 + 1 * b) [us "piece" "code" 1, us "piece" "other" 3]) (by kernel_rfl)) (law_run (forL_cons rfl (law_oth (fs' := [(pu "other", .int 3)]) oth_p (by kernel_rfl) (by simp)) (forL_cons rfl (law_lab (fs' := [(pu "other", .int 3), (pu "code", .int 1)]) L.llb rfl (by kernel_rfl) (by simp)) forL_nil)) (by kernel_rfl)) e (pln_sm2 0 _ k_piece k_code k_piece k_other)
  · exact same2 (put_2 L.wpo (f1 := sm (1 + 3 * 0) [us "piece" "other" 3]) (by kernel_rfl) L.wlb (f2 := sm (1 + 3 * 0 + 1 * b) [us "piece" "la" 1, us "piece" "other" 3]) (by kernel_rfl)) (law_run (forL_cons rfl (law_oth (fs' := [(pu "other", .int 3)]) oth_p (by kernel_rfl) (by simp)) (forL_cons rfl (law_lab (fs' := [(pu "other", .int 3), (pu "la", .int 1)]) L.llb rfl (by kernel_rfl) (by simp)) forL_nil)) (by kernel_rfl)) e (pln_sm2 0 _ k_piece k_la k_piece k_other)
theorem word_ok {p : Str} {x y : D} (h : Wd x y) (L : Lbs es ls p a b c d) (hp : p = "m" ∨ p = "code" ∨ p = "la") : Same2 es ls p x y := by
  cases h with
  | i k => exact w_i k p
  | s0 k => exact w_0 k p
  | s1 => exact w_1 L hp
  | s2 => exact w_2 L hp
  | s3 => exact w_3 L hp
  | s4 k => exact w_4 k L hp
  | s5 => exact w_5 L hp
  | s6 => exact w_6 L hp
end P

namespace P
open PySem PyProof.Rows L2 DL
theorem scan_step (f : Int → Bool) : ∀ (rs : List Row) (i a : Int) (n : Nat) (r : Row), rs[n]? = some r → (a :: scan f rs i a).getD (n + 1) 0 = (a :: scan f rs i a).getD n 0 + r.size ((a :: scan f rs i a).getD n 0) (f (i + n))
  | s :: rs, i, a, 0, r, h => by
    simp only [List.getElem?_cons_zero, Option.some.injEq] at h
    subst h
    simp [scan]
  | s :: rs, i, a, n + 1, r, h => by
    have ih := scan_step f rs (i + 1) (a + s.size a (f i)) n r h
    simp only [scan, List.getD_cons_succ] at ih ⊢
    rw [show i + ((n + 1 : Nat) : Int) = i + 1 + n by omega]
    exact ih
theorem beg_step {rs : List Row} (c : List Int) {n : Nat} {r : Row} (h : rs[n]? = some r) : (begins rs c).getD (n + 1) 0 = (begins rs c).getD n 0 + r.size ((begins rs c).getD n 0) (c.contains (n : Int)) := by
  have := scan_step (fun i => c.contains i) rs 0 0 n r h
  rw [Int.zero_add] at this
  exact this
/-! ### places of labels -/
def begAt (rs : List Row) (c : List Int) (i : Int) : Int := (begins rs c).getD i.toNat 0
def esOf (rs : List Row) (c : List Int) (p : Str) : List (D × D) := (spots rs).map fun q => (un q.1, sm (begAt rs c q.2) [us "piece" p 1])
def lsOf (rs : List Row) (c : List Int) : List (D × D) := (spots rs).map fun q => (.str q.1, .int (begAt rs c q.2))
theorem tk_un (s s' : Str) : isTK [.inr "name", .inr s] (un s') = decide (s' = s) := by
  have := isTK_key [.inr "name", .inr s] [.inr "name", .inr s']
  rw [show un s' = .tup ([.inr "name", .inr s'].map keyD) from rfl, this]
  simp
theorem tk_pu (s s' : Str) : isTK [.inr "piece", .inr s] (un s') = false := by
  have := isTK_key [.inr "piece", .inr s] [.inr "name", .inr s']
  rw [show un s' = .tup ([.inr "name", .inr s'].map keyD) from rfl, this]
  have ne : ("name" : Str) ≠ "piece" := by decide
  simp [ne]
theorem look_es (rs : List Row) (c : List Int) (p s : Str) : lookT true (esOf rs c p) (un s) = some ((lookS (spots rs) s).map fun i => sm (begAt rs c i) [us "piece" p 1]) := by
  show some (dLook (isTK [.inr "name", .inr s]) (esOf rs c p)) = _
  congr 1
  unfold esOf
  induction spots rs with
  | nil => rfl
  | cons q l ih =>
    simp only [List.map_cons, dLook, List.find?_cons, tk_un, lookS]
    by_cases h : q.1 = s
    · simp [h]
    · simp only [h, decide_false, if_false]
      exact ih
theorem look_pu (rs : List Row) (c : List Int) (p s : Str) : lookT true (esOf rs c p) (pu s) = some none := by
  show some (dLook (isTK [.inr "piece", .inr s]) (esOf rs c p)) = _
  congr 1
  unfold esOf
  induction spots rs with
  | nil => rfl
  | cons q l ih =>
    simp only [List.map_cons, dLook, List.find?_cons, tk_pu]
    exact ih
theorem look_ls (rs : List Row) (c : List Int) (s : Str) : lookT false (lsOf rs c) (.str s) = some ((lookS (spots rs) s).map fun i => .int (begAt rs c i)) := by
  have := lookT_kd ((spots rs).map fun q => (.inr q.1, .int (begAt rs c q.2))) (.inr s)
  have e : (((spots rs).map fun q => ((.inr q.1, .int (begAt rs c q.2)) : Key × D)).map kd) = lsOf rs c := by simp [lsOf, kd, keyD]
  rw [e] at this
  rw [show keyD (.inr s) = .str s from rfl] at this
  rw [this]
  congr 1
  induction spots rs with
  | nil => rfl
  | cons q l ih =>
    simp only [List.map_cons, lkp, lookS]
    by_cases h : q.1 = s
    · simp [h]
    · have h2 : ((.inr q.1 : Key)) ≠ .inr s := fun z => h (Sum.inr.inj z)
      simp only [h, h2, if_false]
      exact ih
theorem lab_some {rs : List Row} {l : Str} (h : Row.lb l ∈ rs) : ∃ i, lookS (spots rs) l = some i := by
  have hm : l ∈ (spots rs).map (·.1) := by
    rw [spots_names]
    exact List.mem_map.mpr ⟨.lb l, List.mem_filter.mpr ⟨h, rfl⟩, rfl⟩
  revert hm
  induction spots rs with
  | nil => intro h; cases h
  | cons q t ih =>
    intro hm
    unfold lookS
    by_cases e : q.1 = l
    · exact ⟨q.2, by simp [e]⟩
    · rw [List.map_cons, List.mem_cons] at hm
      rcases hm with z | z
      · exact absurd z.symm e
      · obtain ⟨i, hi⟩ := ih z
        exact ⟨i, by simp [e, hi]⟩
theorem no_away {ev : Bool} {rs : List Row} (h : Dft ev rs) : lookS (spots rs) "away" = none := lookS_none fun q => by
  rw [spots_names] at q
  obtain ⟨r, hr, e⟩ := List.mem_map.mp q
  obtain ⟨h1, h2⟩ := List.mem_filter.mp hr
  have := h.ok r h1
  cases r <;> first | (cases h2; done) | skip
  rename_i l
  have e : l = "away" := e
  subst e
  have this : ("away" : Str) ∈ LBS := this
  exact absurd this (by decide)
theorem lbs_ok {rs : List Row} (h : Dft true rs) (c : List Int) (p : Str) : ∃ x y z w, Lbs (esOf rs c p) (lsOf rs c) p x y z w := by
  obtain ⟨i1, e1⟩ := lab_some (h.al "la" (by decide))
  obtain ⟨i2, e2⟩ := lab_some (h.al "lb" (by decide))
  obtain ⟨i3, e3⟩ := lab_some (h.al "lc" (by decide))
  obtain ⟨i4, e4⟩ := lab_some (h.al "ld" (by decide))
  have e5 := no_away h
  refine ⟨begAt rs c i1, begAt rs c i2, begAt rs c i3, begAt rs c i4, ⟨?_, ?_, ?_, ?_, ?_, look_pu .., look_pu .., ?_, ?_, ?_, ?_, ?_⟩⟩
  · rw [look_es, e1]; rfl
  · rw [look_es, e2]; rfl
  · rw [look_es, e3]; rfl
  · rw [look_es, e4]; rfl
  · rw [look_es, e5]; rfl
  · rw [look_ls, e1]; rfl
  · rw [look_ls, e2]; rfl
  · rw [look_ls, e3]; rfl
  · rw [look_ls, e4]; rfl
  · rw [look_ls, e5]; rfl
end P

namespace P
open PySem PyProof.Rows L2 DL
/-! ### the words of a row -/
def codeN (cc : Str) : Int := if cc = "ask" then 3 else if cc = "go" then 5 else 14
def wout (es : List (D × D)) (q : D × D) : D := match F_put [q.2, .dct true es] with
  | .ok o => o
  | _ => .non
/-- the words of row i -/
def outW (rs : List Row) (c : List Int) (p : Str) (i : Nat) : Row → List D
  | .w l => l.map (wout (esOf rs c p))
  | .e m => List.replicate ((m - (begins rs c).getD i 0 % m) % m).toNat (sm 9 [])
  | .b cc l x => if c.contains (i : Int) then (if leads rs i then [sm (codeN cc + 1) [], sm x [us "name" l 1]] else [sm (codeN cc + 1) [], sm (begAt rs c (spotOf rs i)) [us "piece" p 1]]) else [sm (codeN cc + 2048 * wayOf rs c i) []]
  | .lb _ => []
theorem wout_ok {rs : List Row} (h : Dft true rs) {c : List Int} {p : Str} (hp : p = "m" ∨ p = "code" ∨ p = "la") {q : D × D} (hw : Wd q.1 q.2) : F_put [q.2, .dct true (esOf rs c p)] = .ok (wout (esOf rs c p) q) ∧ F_law_put_in [q.1, .dct false (lsOf rs c), .str p] = .ok (wout (esOf rs c p) q) ∧ Pln 5 (wout (esOf rs c p) q) := by
  obtain ⟨x, y, z, w, L⟩ := lbs_ok h c p
  obtain ⟨o, h1, h2, h3⟩ := word_ok hw L hp
  have e : wout (esOf rs c p) q = o := by unfold wout; rw [h1]
  rw [e]
  exact ⟨h1, h2, h3⟩
theorem sum_int (k : Int) : F_sum_of [.int k] = .ok (sm k []) := by kernel_rfl
theorem sum_0 (k : Int) : F_sum_of [sm k []] = .ok (sm k []) := by kernel_rfl
theorem sum_p {p : Str} (hp : p = "m" ∨ p = "code" ∨ p = "la") (k : Int) : F_sum_of [sm k [us "piece" p 1]] = .ok (sm k [us "piece" p 1]) := by
  rcases hp with rfl | rfl | rfl <;> kernel_rfl
theorem sum_n {l : Str} (hl : l ∈ (["la", "lb", "lc", "ld", "away"] : List Str)) (k : Int) : F_sum_of [sm k [us "name" l 1]] = .ok (sm k [us "name" l 1]) := by
  simp only [List.mem_cons, List.not_mem_nil, or_false] at hl
  rcases hl with rfl | rfl | rfl | rfl | rfl <;> kernel_rfl
theorem code_cases {cc : Str} (h : cc ∈ (["ask", "go", "call"] : List Str)) : cc = "ask" ∨ cc = "go" ∨ cc = "call" := by simpa using h
theorem coded_near {cc : Str} (h : cc ∈ (["ask", "go", "call"] : List Str)) (w : Int) : F_coded [.int (codeN cc), .int 0, .int 0, .int w] = .ok (.int (codeN cc + 2048 * w)) := by
  rcases code_cases h with rfl | rfl | rfl
  · show F_coded [.int 3, .int 0, .int 0, .int w] = .ok (.int (3 + 2048 * w)); kernel_rfl
  · show F_coded [.int 5, .int 0, .int 0, .int w] = .ok (.int (5 + 2048 * w)); kernel_rfl
  · show F_coded [.int 14, .int 0, .int 0, .int w] = .ok (.int (14 + 2048 * w)); kernel_rfl
theorem coded_far {cc : Str} (h : cc ∈ (["ask", "go", "call"] : List Str)) : F_coded [.int (codeN cc + 1), .int 0, .int 0, .int 0] = .ok (.int (codeN cc + 1)) := by
  rcases code_cases h with rfl | rfl | rfl <;> kernel_rfl
theorem code_get {cc : Str} (h : cc ∈ (["ask", "go", "call"] : List Str)) : gSub (.dct false (mergeD [] [(.inr "ask", (.int 3)), (.inr "go", (.int 5)), (.inr "call", (.int 14))])) (.str cc) = some (.int (codeN cc)) := by
  rcases code_cases h with rfl | rfl | rfl <;> kernel_rfl
theorem cutT {x : D} {l : List D} : gSl (.tup (x :: l)) (some 1) none = some (.tup l) := by simp only [gSl, cut1]
theorem callK4 {F : List D → FR} {dd : List D} {m0 m1 m2 m3 : ME} {r : DEnv} {x0 x1 x2 x3 d : D} (h0 : m0 r = .ok x0 r) (h1 : m1 r = .ok x1 r) (h2 : m2 r = .ok x2 r) (h3 : m3 r = .ok x3 r) (hF : F [x0, x1, x2, x3] = .ok d) : mCallK F [.p 0, .p 1, .p 2, .p 3] dd 4 0 (aCons m0 (aCons m1 (aCons m2 (aCons m3 aNil)))) aNil r = .ok d r := by
  have e : pick [.p 0, .p 1, .p 2, .p 3] [x0, x1, x2, x3] dd [] = [x0, x1, x2, x3] := rfl
  simp only [mCallK, acons_ok h0 (acons_ok h1 (acons_ok h2 (acons_ok h3 anil_ok))), aNil, e, hF]
  rfl
theorem callK1 {F : List D → FR} {a b c : D} {m0 : ME} {r : DEnv} {x0 d : D} (h0 : m0 r = .ok x0 r) (hF : F [x0, a, b, c] = .ok d) : mCallK F [.p 0, .d 0, .d 1, .d 2] [a, b, c] 1 0 (aCons m0 aNil) aNil r = .ok d r := by
  have e : pick [.p 0, .d 0, .d 1, .d 2] [x0] [a, b, c] [] = [x0, a, b, c] := rfl
  simp only [mCallK, acons_ok h0 anil_ok, aNil, e, hF]
  rfl
end P

namespace P
open PySem PyProof.Rows L2 DL
theorem meth_run {c m : Str} {F : List D → FR} {o : ME} {a : MA} {r : DEnv} {x d : D} {ds : List D} (ho : o r = .ok x r) (hi : isObj c m x = true) (ha : a r = .ok ds r) (hF : F (x :: ds) = .ok d) : mMeth c m F o a r = .ok d r := meth_ok ho hi ha hF
theorem ob_bw {rs : List Row} : DL.isObj "Draft" "branch_words" (dr rs) = true := obj_of
theorem ob_ck {rs : List Row} : DL.isObj "Draft" "checked" (dr rs) = true := obj_of
theorem ob_cw {rs : List Row} : DL.isObj "Draft" "coded_words" (dr rs) = true := obj_of
theorem br_mem {rs : List Row} {i : Nat} {cc l : Str} {x : Int} (h : rs[i]? = some (.b cc l x)) : (i : Int) ∈ brs rs := by
  unfold brs
  refine List.mem_map.mpr ⟨((i : Int), .b cc l x), List.mem_filter.mpr ⟨?_, rfl⟩, rfl⟩
  have : ∀ (rs : List Row) (k : Int) (i : Nat) (r : Row), rs[i]? = some r → (k + i, r) ∈ zipI k rs := by
    intro rs
    induction rs with
    | nil => intro k i r h; simp at h
    | cons a rs ih =>
      intro k i r h
      cases i with
      | zero => simp at h; subst h; simp [zipI]
      | succ i =>
        have := ih (k + 1) i r (by simpa using h)
        simp only [zipI, List.mem_cons]
        right
        rw [show k + ((i + 1 : Nat) : Int) = k + 1 + (i : Int) by omega]
        exact this
  have := this rs 0 i _ h
  simpa using this
/-- branch_words -/
theorem bw_ok {rs : List Row} (g : Good rs) {c : List Int} (hc : Chc rs c) {p : Str} {i : Nat} {cc l : Str} {x : Int} (hr : rs[i]? = some (.b cc l x)) (hcc : cc ∈ (["ask", "go", "call"] : List Str)) :
    F_Draft_branch_words [dr rs, .int i, .tup (iL c), .str p] = .ok (.lst (if c.contains (i : Int) then (if leads rs i then [.int (codeN cc + 1), sm x [us "name" l 1]] else [.int (codeN cc + 1), sm (begAt rs c (spotOf rs i)) [us "piece" p 1]]) else [.int (codeN cc + 2048 * wayOf rs c i)])) := by
  have hb := br_mem hr
  have ea : atI (rs.map Row.p) (i : Int) = some (Row.b cc l x).p := by rw [DL.atI_nat, List.getElem?_map, hr]; rfl
  have nm : nameAt rs i = l := by simp [nameAt, hr, Row.name]
  let R0 : DEnv := [.dat (dr rs), .dat (.int i), .dat (.tup (iL c)), .dat (.str p), .un, .un, .un, .un]
  let R1 : DEnv := [.dat (dr rs), .dat (.int i), .dat (.tup (iL c)), .dat (.str p), .un, .dat (.str cc), .dat (.str l), .dat (.int x)]
  let R2 : DEnv := [.dat (dr rs), .dat (.int i), .dat (.tup (iL c)), .dat (.str p), .dat (.int (codeN cc)), .dat (.str cc), .dat (.str l), .dat (.int x)]
  have s1 : (sAsgT (gTup2 3 (gsCons (gN 5) (gsCons (gN 6) (gsCons (gN 7) gsNil)))) (mSl (mOp gSub (mUn (gFld "Draft" "draft_rows") (mV 0)) (mV 1)) (mInt (mC (.int 1))) (mC .non))) R0 = .nx R1 := by
    have q : (mOp gSub (mUn (gFld "Draft" "draft_rows") (mV 0)) (mV 1)) R0 = .ok (Row.b cc l x).p R0 := op_ok (un_ok rfl fld_rows) rfl ea
    have q2 : (mSl (mOp gSub (mUn (gFld "Draft" "draft_rows") (mV 0)) (mV 1)) (mInt (mC (.int 1))) (mC .non)) R0 = .ok (.tup [.str cc, .str l, .int x]) R0 := by
      have : (mSl (mOp gSub (mUn (gFld "Draft" "draft_rows") (mV 0)) (mV 1)) (mInt (mC (.int 1))) (mC .non)) R0 = optE (gSl (Row.b cc l x).p (some 1) none) R0 := by
        unfold mSl
        rw [q]
        rfl
      rw [this]
      show optE (gSl (.tup (.str "branch" :: [.str cc, .str l, .int x])) (some 1) none) R0 = _
      rw [cutT]
      rfl
    exact asgT_ok q2 rfl
  have s2 : sAsg 4 (mOp gSub (mC (.dct false (mergeD [] [(.inr "ask", (.int 3)), (.inr "go", (.int 5)), (.inr "call", (.int 14))]))) (mV 5)) R1 = .nx R2 := asg_ok (op_ok rfl rfl (code_get hcc))
  have t1 : (mOp gNotInG (mV 1) (mV 2)) R2 = .ok (.bl (!c.contains (i : Int))) R2 := op_ok rfl rfl (notInI (.inr rfl) _)
  have far : mCallK F_coded [.p 0, .d 0, .d 1, .d 2] dd_coded 1 0 (aCons (mOp gAdd (mV 4) (mC (.int 1))) aNil) aNil R2 = .ok (.int (codeN cc + 1)) R2 := callK1 (op_ok rfl rfl rfl) (coded_far hcc)
  by_cases h : c.contains (i : Int) = true
  · rw [h] at t1
    have t2 : mMeth "Draft" "leads_out" F_Draft_leads_out (mV 0) (aCons (mV 1) aNil) R2 = .ok (.bl (leads rs i)) R2 := meth_run rfl ob2 rfl (leads_ok hb)
    simp only [h, if_true]
    by_cases hl : leads rs i = true
    · rw [hl] at t2
      simp only [hl, if_true]
      exact run_rt (r := R0) rfl rfl (seq_nx s1 (seq_nx s2 (seq_nx (if_f t1 rfl) (seq_rt (if_t t2 (ret_ok (lst_ok (acons_ok far (acons_ok (tup2_ok rfl (tup_ok (acons_ok (tup2_ok (tup2_ok rfl rfl) rfl) rfl) (by simp))) rfl)) (by simp))))))))
    · have hl2 : leads rs i = false := by simpa using hl
      rw [hl2] at t2
      simp only [hl2, Bool.false_eq_true, if_false]
      have ho : (i : Int) ∈ opens rs := List.mem_filter.mpr ⟨hb, by simp [hl2]⟩
      have lk := opens_look ho
      rw [nm] at lk
      obtain ⟨n, e1, e2⟩ := spot_nat lk
      have b1 : mMeth "Draft" "begins" F_Draft_begins (mV 0) (aCons (mV 2) aNil) R2 = .ok (.lst (iL (begins rs c))) R2 := meth_run rfl ob4 rfl (begins_ok (.inr rfl) g.good g.len)
      have b2 : (mOp gSub (mUn (gFld "Draft" "labels") (mV 0)) (mV 6)) R2 = .ok (.int (spotOf rs i)) R2 := op_ok (un_ok rfl fld_labels) rfl (get_sp lk)
      have b3 : gSub (.lst (iL (begins rs c))) (.int (spotOf rs i)) = some (.int (begAt rs c (spotOf rs i))) := by
        rw [e1]
        show atI (iL (begins rs c)) (n : Int) = _
        rw [at_beg (by omega)]
        simp [begAt]
      exact run_rt (r := R0) rfl rfl (seq_nx s1 (seq_nx s2 (seq_nx (if_f t1 rfl) (seq_nx (if_f t2 rfl) (ret_ok (lst_ok (acons_ok far (acons_ok (call_ok (ds := [.str p, .int (begAt rs c (spotOf rs i))]) (acons_ok rfl (acons_ok (op_ok b1 b2 b3) rfl)) (by kernel_rfl : F_sum_at [.str p, .int (begAt rs c (spotOf rs i))] = .ok (sm (begAt rs c (spotOf rs i)) [us "piece" p 1]))) rfl)) (by simp)))))))
  · have h2 : c.contains (i : Int) = false := by simpa using h
    rw [h2] at t1
    simp only [h2, Bool.false_eq_true, if_false]
    have ho : (i : Int) ∈ opens rs := by
      refine List.mem_filter.mpr ⟨hb, ?_⟩
      cases q : leads rs i with
      | false => rfl
      | true =>
        have := hc.out i (List.mem_filter.mpr ⟨hb, q⟩)
        simp [this] at h2
    have w1 : mMeth "Draft" "ways" F_Draft_ways (mV 0) (aCons (mV 2) aNil) R2 = .ok (.dct false ((waysK rs c).map kd)) R2 := meth_run rfl ob5 rfl (ways_ok g (.inr rfl))
    exact run_rt (r := R0) rfl rfl (seq_nx s1 (seq_nx s2 (seq_rt (if_t t1 (ret_ok (lst_ok (acons_ok (callK4 rfl rfl rfl (op_ok w1 rfl (get_way ho)) (coded_near hcc _)) rfl) (by simp)))))))
end P

namespace P
open PySem PyProof.Rows L2 DL
/-! ### a turn of coded_words -/
theorem rep_any (d : D) {k : Int} (h0 : 0 ≤ k) (h : k ≤ 255) : lRep (.lst [d]) (.int k) = some (.lst (List.replicate k.toNat d)) := by
  have c1 : -(2 ^ 63) ≤ k ∧ k < 2 ^ 63 ∧ [d].length * k.toNat ≤ 16777216 := by
    refine ⟨by omega, by omega, ?_⟩
    simp; omega
  simp only [lRep]
  rw [if_pos c1, List.flatten_replicate_singleton]
theorem outW_len {rs : List Row} {c : List Int} {p : Str} {i : Nat} {r : Row} (hr : okL true r) : (outW rs c p i r).length ≤ 255 := by
  cases r with
  | w l => simpa [outW] using hr.1
  | e m =>
    have h1 : 1 ≤ m := hr.2.1
    have h2 : m ≤ 64 := hr.2.2
    have : (m - (begins rs c).getD i 0 % m) % m < m := Int.emod_lt_of_pos _ (by omega)
    simp only [outW, List.length_replicate]
    omega
  | b cc l x =>
    simp only [outW]
    split
    · split <;> simp
    · simp
  | lb l => simp [outW]
theorem outW_pln {rs : List Row} (h : Dft true rs) {c : List Int} {p : Str} (hp : p = "m" ∨ p = "code" ∨ p = "la") {i : Nat} {r : Row} (hr : okL true r) : ∀ d ∈ outW rs c p i r, Pln 5 d := by
  have hps : PyData.strOk p = true := by
    rcases hp with rfl | rfl | rfl
    · exact k_m
    · exact k_code
    · exact k_la
  intro d hd
  cases r with
  | w l =>
    obtain ⟨q, hq, rfl⟩ := List.mem_map.mp hd
    exact (wout_ok h hp (hr.2 q hq)).2.2
  | e m => rw [(List.mem_replicate.mp hd).2]; exact pln_sm0 0 9
  | b cc l x =>
    have hl : PyData.strOk l = true := by
      have := hr.2.1
      simp only [List.mem_cons, List.not_mem_nil, or_false] at this
      rcases this with rfl | rfl | rfl | rfl | rfl
      · exact k_la
      · exact k_lb
      · exact k_lc
      · exact k_ld
      · exact k_away
    simp only [outW] at hd
    split at hd
    · split at hd
      · simp only [List.mem_cons, List.not_mem_nil, or_false] at hd
        rcases hd with rfl | rfl
        · exact pln_sm0 0 _
        · exact pln_sm1 0 _ k_name hl
      · simp only [List.mem_cons, List.not_mem_nil, or_false] at hd
        rcases hd with rfl | rfl
        · exact pln_sm0 0 _
        · exact pln_sm1 0 _ k_piece hps
    · rw [List.mem_singleton] at hd
      subst hd
      exact pln_sm0 0 _
  | lb l => cases hd
abbrev cwE (rs : List Row) (c : List Int) (p : Str) (X2 x4 x8 : Sl) (found : List D) : DEnv := [.dat (dr rs), .dat (.str p), X2, .dat (.tup (iL c)), x4, .dat (.lst (iL (begins rs c))), .dat (.dct true (esOf rs c p)), .own false found, x8, .un, .un, .un]
theorem beg_gap {rs : List Row} {c : List Int} {i : Nat} {m : Int} (hr : rs[i]? = some (.e m)) : (begins rs c).getD (i + 1) 0 - (begins rs c).getD i 0 = (m - (begins rs c).getD i 0 % m) % m := by
  rw [beg_step c hr]
  simp only [Row.size]
  omega
theorem nat_len {rs : List Row} {i : Nat} {r : Row} (hr : rs[i]? = some r) : i < rs.length := by
  obtain ⟨h, _⟩ := List.getElem?_eq_some_iff.mp hr
  exact h
theorem ne_s (a b : Str) (e : gEq (.str a) (.str b) = some (.bl false)) {R : DEnv} {t : ME} (h : t R = .ok (.str a) R) : (mOp gEq t (mC (.str b))) R = .ok (.bl false) R := op_ok h rfl e
theorem sums_lc {R R1 : DEnv} {m : ME} (l : List (D × D)) (hm : m R = .ok (.lst (l.map (·.1))) R) (hw : wipeR R [11] = R) (hs : ∀ d, wipeR (R.set 11 (.dat d)) [11] = R) (hg : ∀ d, gN 11 d R = some (R.set 11 (.dat d))) (hv : ∀ d, mV 11 (R.set 11 (.dat d)) = .ok d (R.set 11 (.dat d))) (hl : l.length ≤ 1000) (h : ∀ q ∈ l, F_sum_of [q.1] = .ok q.2) :
    (mLc (mIter m) (gN 11) mYes (mCall F_sum_of (aCons (mV 11) aNil)) [11]) R = .ok (l.map (·.2)) R :=
  mLc_all (l := l) (·.1) (·.2) (iter_ok hm rfl) hw (by omega) fun q hq => ⟨_, hg _, hs _, rfl, call_ok (acons_ok (hv _) rfl) (h q hq)⟩
theorem cw_turn {rs : List Row} (h : Dft true rs) {c : List Int} (hc : Chc rs c) {p : Str} (hp : p = "m" ∨ p = "code" ∨ p = "la") {X2 : Sl} {i : Nat} {r : Row} (hr : rs[i]? = some r) {found : List D} (hf : found.length ≤ 10000) :
    M_Draft_coded_words_b2 (cwE rs c p X2 (.dat (.int i)) (.dat r.p) found) = .nx (cwE rs c p X2 (.dat (.int i)) (.dat r.p) (found ++ outW rs c p i r)) := by
  have hm : r ∈ rs := List.mem_of_getElem? hr
  have ho := h.ok r hm
  have hn := nat_len hr
  have few : Few (found ++ outW rs c p i r) := by
    have := outW_len (rs := rs) (c := c) (p := p) (i := i) ho
    simp [Few]; omega
  cases r with
  | w l =>
    have lc : (mLc (mIter (mOp gSub (mV 8) (mC (.int 1)))) (gN 11) mYes (mCall F_put (aCons (mV 11) (aCons (mV 6) aNil))) [11]) (cwE rs c p X2 (.dat (.int i)) (.dat (Row.w l).p) found) = .ok (l.map (wout (esOf rs c p))) (cwE rs c p X2 (.dat (.int i)) (.dat (Row.w l).p) found) :=
      mLc_all (l := l) (·.2) (wout (esOf rs c p)) (iter_ok (op_ok rfl rfl rfl) rfl) rfl (by have := ho.1; omega) fun q hq => ⟨(cwE rs c p X2 (.dat (.int i)) (.dat (Row.w l).p) found).set 11 (.dat q.2), rfl, rfl, rfl, call_ok (acons_ok rfl (acons_ok rfl rfl)) (wout_ok h hp (ho.2 q hq)).1⟩
    exact if_t (op_ok (op_ok rfl rfl rfl) rfl (by kernel_rfl : gEq (.str "words") (.str "words") = some (.bl true))) (ext_w rfl (frz_ok lc) few)
  | e m =>
    have h1 : 1 ≤ m := ho.2.1
    have h2 : m ≤ 64 := ho.2.2
    have l1 : (m - (begins rs c).getD i 0 % m) % m < m := Int.emod_lt_of_pos _ (by omega)
    have l2 : 0 ≤ (m - (begins rs c).getD i 0 % m) % m := Int.emod_nonneg _ (by omega)
    have a1 : gSub (.lst (iL (begins rs c))) (.int (i : Int)) = some (.int ((begins rs c).getD i 0)) := at_beg (by omega)
    have a2 : gSub (.lst (iL (begins rs c))) (.int ((i : Int) + 1)) = some (.int ((begins rs c).getD (i + 1) 0)) := at_beg (n := i + 1) (by omega)
    have g := beg_gap (c := c) hr
    have rp := rep_any (sm 9 []) l2 (by omega)
    refine if_f (op_ok (op_ok rfl rfl rfl) rfl (by kernel_rfl : gEq (.str "even") (.str "words") = some (.bl false))) (if_t (op_ok (op_ok rfl rfl rfl) rfl (by kernel_rfl : gEq (.str "even") (.str "even") = some (.bl true))) (ext_w rfl (op_ok (lst_ok (acons_ok (call_ok (acons_ok (callK1 rfl (by kernel_rfl : F_coded [.int 9, .int 0, .int 0, .int 0] = .ok (.int 9))) rfl) (sum_int 9)) rfl) (by simp)) (op_ok (op_ok rfl (op_ok rfl rfl rfl) a2) (op_ok rfl rfl a1) rfl) ?_) few))
    rw [g]
    exact rp
  | b cc l x =>
    have bw := bw_ok h.g hc (p := p) hr ho.1
    have q0 : (mMeth "Draft" "branch_words" F_Draft_branch_words (mV 0) (aCons (mV 4) (aCons (mV 3) (aCons (mV 1) aNil)))) (cwE rs c p X2 (.dat (.int i)) (.dat (Row.b cc l x).p) found) = .ok _ (cwE rs c p X2 (.dat (.int i)) (.dat (Row.b cc l x).p) found) := meth_run rfl ob_bw rfl bw
    have fin : ∀ qs : List (D × D), qs.length ≤ 2 → qs.map (·.1) = (if c.contains (i : Int) then (if leads rs i then [.int (codeN cc + 1), sm x [us "name" l 1]] else [.int (codeN cc + 1), sm (begAt rs c (spotOf rs i)) [us "piece" p 1]]) else [.int (codeN cc + 2048 * wayOf rs c i)]) → qs.map (·.2) = outW rs c p i (.b cc l x) → (∀ q ∈ qs, F_sum_of [q.1] = .ok q.2) →
        M_Draft_coded_words_b2 (cwE rs c p X2 (.dat (.int i)) (.dat (Row.b cc l x).p) found) = .nx (cwE rs c p X2 (.dat (.int i)) (.dat (Row.b cc l x).p) (found ++ outW rs c p i (.b cc l x))) := by
      intro qs hl e1 e2 hq
      rw [← e1] at q0
      have lc := sums_lc (R1 := []) qs q0 rfl (fun _ => rfl) (fun _ => rfl) (fun _ => rfl) (by omega) hq
      rw [e2] at lc
      exact if_f (op_ok (op_ok rfl rfl rfl) rfl (by kernel_rfl : gEq (.str "branch") (.str "words") = some (.bl false))) (if_f (op_ok (op_ok rfl rfl rfl) rfl (by kernel_rfl : gEq (.str "branch") (.str "even") = some (.bl false))) (if_t (op_ok (op_ok rfl rfl rfl) rfl (by kernel_rfl : gEq (.str "branch") (.str "branch") = some (.bl true))) (ext_w rfl (frz_ok lc) few)))
    by_cases h1 : c.contains (i : Int) = true
    · by_cases h2 : leads rs i = true
      · refine fin [(.int (codeN cc + 1), sm (codeN cc + 1) []), (sm x [us "name" l 1], sm x [us "name" l 1])] (by simp) (by simp only [h1, h2, if_true]; rfl) (by simp only [outW, h1, h2, if_true]; rfl) ?_
        intro q hq
        simp only [List.mem_cons, List.not_mem_nil, or_false] at hq
        rcases hq with rfl | rfl
        · exact sum_int _
        · exact sum_n ho.2.1 _
      · have h2 : leads rs i = false := by simpa using h2
        refine fin [(.int (codeN cc + 1), sm (codeN cc + 1) []), (sm (begAt rs c (spotOf rs i)) [us "piece" p 1], sm (begAt rs c (spotOf rs i)) [us "piece" p 1])] (by simp) (by simp only [h1, h2, if_true, Bool.false_eq_true, if_false]; rfl) (by simp only [outW, h1, h2, if_true, Bool.false_eq_true, if_false]; rfl) ?_
        intro q hq
        simp only [List.mem_cons, List.not_mem_nil, or_false] at hq
        rcases hq with rfl | rfl
        · exact sum_int _
        · exact sum_p hp _
    · have h1 : c.contains (i : Int) = false := by simpa using h1
      refine fin [(.int (codeN cc + 2048 * wayOf rs c i), sm (codeN cc + 2048 * wayOf rs c i) [])] (by simp) (by simp only [h1, Bool.false_eq_true, if_false]; rfl) (by simp only [outW, h1, Bool.false_eq_true, if_false]; rfl) ?_
      intro q hq
      rw [List.mem_singleton] at hq
      subst hq
      exact sum_int _
  | lb l =>
    rw [show outW rs c p i (.lb l) = [] from rfl, List.append_nil]
    exact if_f (op_ok (op_ok rfl rfl rfl) rfl (by kernel_rfl : gEq (.str "label") (.str "words") = some (.bl false))) (if_f (op_ok (op_ok rfl rfl rfl) rfl (by kernel_rfl : gEq (.str "label") (.str "even") = some (.bl false))) (if_f (op_ok (op_ok rfl rfl rfl) rfl (by kernel_rfl : gEq (.str "label") (.str "branch") = some (.bl false))) rfl))
def outF (rs : List Row) (c : List Int) (p : Str) : Nat → List Row → List D
  | _, [] => []
  | k, r :: s => outW rs c p k r ++ outF rs c p (k + 1) s
theorem drop_get {rs suf : List Row} {k : Nat} {r : Row} (h : rs.drop k = r :: suf) : rs[k]? = some r ∧ rs.drop (k + 1) = suf := by
  constructor
  · have := congrArg (·[0]?) h
    simpa using this
  · have := congrArg (·.drop 1) h
    simpa [Nat.add_comm] using this
theorem cw_loop {rs : List Row} (h : Dft true rs) {c : List Int} (hc : Chc rs c) {p : Str} (hp : p = "m" ∨ p = "code" ∨ p = "la") {X2 : Sl} : ∀ (suf : List Row) (k : Nat) (found : List D) (x4 x8 : Sl), rs.drop k = suf → found.length + 255 * suf.length ≤ 10000 →
    ∃ y4 y8, forL (gTup2 2 (gsCons (gN 4) (gsCons (gN 8) gsNil))) M_Draft_coded_words_b2 (enumF k (suf.map Row.p)) (cwE rs c p X2 x4 x8 found) = .nx (cwE rs c p X2 y4 y8 (found ++ outF rs c p k suf))
  | [], k, found, x4, x8, _, _ => ⟨x4, x8, by rw [outF, List.append_nil]; rfl⟩
  | r :: suf, k, found, x4, x8, hs, hl => by
    obtain ⟨e1, e2⟩ := drop_get hs
    have ho := h.ok r (List.mem_of_getElem? e1)
    have t := cw_turn h hc hp (X2 := X2) e1 (found := found) (by simp at hl; omega)
    have := outW_len (rs := rs) (c := c) (p := p) (i := k) ho
    obtain ⟨y4, y8, q⟩ := cw_loop h hc hp (X2 := X2) suf (k + 1) (found ++ outW rs c p k r) (.dat (.int k)) (.dat r.p) e2 (by simp at hl ⊢; omega)
    refine ⟨y4, y8, ?_⟩
    rw [outF, ← List.append_assoc]
    exact forL_cons (r1 := cwE rs c p X2 (.dat (.int k)) (.dat r.p) found) rfl t q
end P

namespace P
open PySem PyProof.Rows L2 DL
/-! ### coded_words -/
theorem dc_step {g : GD} {c ek ev : ME} {vs : List Nat} {d y z : D} {l : List D} {r r1 : DEnv} {es : List (D × D)} {kk : List Key} (h1 : g d r = some r1) (h2 : c r1 = .ok (.bl true) r1) (h3 : ek r1 = .ok y r1) (h4 : ev r1 = .ok z r1) (h5 : tkD y = some kk) (h6 : es.length < 16777216) (h7 : wipeR r1 vs = r) :
    dcLT g c ek ev vs (d :: l) r es = dcLT g c ek ev vs l r (dPut (isTK kk) (.tup (kk.map keyD)) es z) := by
  simp only [dcLT, h1, h2, h3, h4, h5, h6, h7, if_true]
theorem spots_rng {rs : List Row} {q : Str × Int} (h : q ∈ spots rs) : ∃ n : Nat, q.2 = n ∧ n < rs.length := by
  obtain ⟨p, hp, rfl⟩ := List.mem_map.mp h
  obtain ⟨n, e1, e2⟩ := zipI_mem (List.mem_filter.mp hp).1
  exact ⟨n, by simpa using e1, nat_len e2⟩
theorem put_new (f : Str × Int → D) (done : List (Str × Int)) (q : Str × Int) (h : q.1 ∉ done.map (·.1)) (z : D) : dPut (isTK [.inr "name", .inr q.1]) (.tup ([.inr "name", .inr q.1].map keyD)) (done.map fun q => (un q.1, f q)) z = (done.map fun q => (un q.1, f q)) ++ [(un q.1, z)] := by
  unfold dPut
  have : ((done.map fun q => (un q.1, f q)).any fun e => isTK [.inr "name", .inr q.1] e.1) = false := by
    rw [List.any_eq_false]
    intro e he
    obtain ⟨p, hp, rfl⟩ := List.mem_map.mp he
    simp only [tk_un, decide_eq_true_eq]
    intro z
    exact h (List.mem_map.mpr ⟨p, hp, z⟩)
  rw [this]
  rfl
abbrev cwS (rs : List Row) (c : List Int) (p : Str) (X2 : Sl) : DEnv := [.dat (dr rs), .dat (.str p), X2, .dat (.tup (iL c)), .un, .dat (.lst (iL (begins rs c))), .un, .un, .un, .un, .un, .un]
theorem dc_loop {rs : List Row} {c : List Int} {p : Str} {X2 : Sl} : ∀ (sp done : List (Str × Int)), (∀ q ∈ sp, ∃ n : Nat, q.2 = n ∧ n < rs.length) → ((done ++ sp).map (·.1)).Nodup → done.length + sp.length < 1000 →
    dcLT (gTup2 2 (gsCons (gN 9) (gsCons (gN 10) gsNil))) mYes (mAgs gTupD (aCons (mC (.str "name")) (aCons (mV 9) aNil))) (mCall F_sum_at (aCons (mV 1) (aCons (mOp gSub (mV 5) (mV 10)) aNil))) [9, 10] (sp.map fun q => .tup [.str q.1, .int q.2]) (cwS rs c p X2) (done.map fun q => (un q.1, sm (begAt rs c q.2) [us "piece" p 1])) = some ((done ++ sp).map fun q => (un q.1, sm (begAt rs c q.2) [us "piece" p 1]), cwS rs c p X2)
  | [], done, _, _, _ => by rw [List.append_nil]; rfl
  | q :: sp, done, hr, hn, hl => by
    obtain ⟨n, e1, e2⟩ := hr q (by simp)
    have a1 : gSub (.lst (iL (begins rs c))) (.int q.2) = some (.int (begAt rs c q.2)) := by
      rw [e1]
      show atI (iL (begins rs c)) (n : Int) = _
      rw [at_beg (by omega)]
      simp [begAt]
    have fs : F_sum_at [.str p, .int (begAt rs c q.2)] = .ok (sm (begAt rs c q.2) [us "piece" p 1]) := by kernel_rfl
    have nq : q.1 ∉ done.map (·.1) := by
      intro z
      rw [List.map_append, List.map_cons] at hn
      have := (List.nodup_append.mp hn).2.2 q.1 z q.1 (by simp)
      exact this rfl
    rw [List.map_cons]
    have ln : (done.map fun q => (un q.1, sm (begAt rs c q.2) [us "piece" p 1])).length < 16777216 := by rw [List.length_map]; simp at hl; omega
    refine Eq.trans (dc_step (r1 := ((cwS rs c p X2).set 9 (.dat (.str q.1))).set 10 (.dat (.int q.2))) (y := un q.1) (kk := [.inr "name", .inr q.1]) rfl rfl (tup2_ok rfl rfl) (call_ok (acons_ok rfl (acons_ok (op_ok rfl rfl a1) rfl)) fs) rfl ln rfl) ?_
    rw [put_new _ _ _ nq]
    have ih := dc_loop (rs := rs) (c := c) (p := p) (X2 := X2) sp (done ++ [q]) (fun q hq => hr q (by simp [hq])) (by rw [List.append_assoc]; exact hn) (by simp at hl ⊢; omega)
    rw [List.append_assoc] at ih
    rw [List.map_append] at ih
    exact ih
theorem spots_len (rs : List Row) : (spots rs).length ≤ rs.length := by
  unfold spots
  rw [List.length_map]
  have := List.length_filter_le (fun p : Int × Row => p.2.isL) (zipI 0 rs)
  rw [zipI_len] at this
  exact this
theorem dc_ok {rs : List Row} (g : Good rs) {c : List Int} {p : Str} {X2 : Sl} : (mDcT (mItems (mUn (gFld "Draft" "labels") (mV 0))) (gTup2 2 (gsCons (gN 9) (gsCons (gN 10) gsNil))) mYes (mAgs gTupD (aCons (mC (.str "name")) (aCons (mV 9) aNil))) (mCall F_sum_at (aCons (mV 1) (aCons (mOp gSub (mV 5) (mV 10)) aNil))) [9, 10]) (cwS rs c p X2) = .ok (.dct true (esOf rs c p)) (cwS rs c p X2) := by
  have hi : (mItems (mUn (gFld "Draft" "labels") (mV 0))) (cwS rs c p X2) = .ok ((spots rs).map fun q => .tup [.str q.1, .int q.2]) (cwS rs c p X2) := by
    have : (mUn (gFld "Draft" "labels") (mV 0)) (cwS rs c p X2) = .ok (.dct false ((spK (spots rs)).map kd)) (cwS rs c p X2) := un_ok rfl fld_labels
    simp only [mItems, this]
    congr 1
    simp [spK, kd, keyD]
  have L := dc_loop (rs := rs) (c := c) (p := p) (X2 := X2) (spots rs) [] (fun q hq => spots_rng hq) (by simpa using g.nod) (by have := spots_len rs; have := g.len; simp; omega)
  unfold mDcT
  rw [hi]
  show (match dcLT _ _ _ _ _ _ (cwS rs c p X2) [] with
    | some (es, r2) => ER.ok (.dct true es) r2
    | none => .bad) = _
  rw [List.map_nil] at L
  rw [L]
  rfl
theorem pn_ok {p : Str} (hp : p = "m" ∨ p = "code" ∨ p = "la") : F_is_name [.str p] = .ok (.bl true) := by
  rcases hp with rfl | rfl | rfl <;> kernel_rfl
abbrev cw0 (rs : List Row) (p : Str) (cd : D) (x3 : Sl) : DEnv := [.dat (dr rs), .dat (.str p), .dat cd, x3, .un, .un, .un, .un, .un, .un, .un, .un]
theorem cw_s1 {rs : List Row} {p : Str} (hp : p = "m" ∨ p = "code" ∨ p = "la") {cd : D} : (sIf (mNot (mCall F_is_name (aCons (mV 1) aNil))) (sRaise "NoName" ["name"] (aCons (mV 1) aNil)) sNil) (cw0 rs p cd .un) = .nx (cw0 rs p cd .un) := if_f (not_ok (x := true) (call_ok rfl (pn_ok hp))) rfl
theorem cw_ok {rs : List Row} (h : Dft true rs) {c : List Int} (hc : Chc rs c) {cd : D} (hi : InC cd c) {p : Str} (hp : p = "m" ∨ p = "code" ∨ p = "la") (hL : long rs c = []) :
    F_Draft_coded_words [dr rs, .str p, cd] = .own (outF rs c p 0 rs) := by
  have g := h.g
  have ln := h.ln
  obtain ⟨y4, y8, lp⟩ := cw_loop h hc hp (X2 := .dat cd) rs 0 [] .un .un (by simp) (by simp; omega)
  have it : (mIt enumOf (aCons (mUn (gFld "Draft" "draft_rows") (mV 0)) aNil)) (cwE rs c p (.dat cd) .un .un []) = .ok (enumF 0 (rs.map Row.p)) (cwE rs c p (.dat cd) .un .un []) := by
    rw [← enumD_F]
    exact it_ok (acons_ok (un_ok rfl fld_rows) rfl) rfl
  have s2 : sAsg 3 (mMeth "Draft" "checked" F_Draft_checked (mV 0) (aCons (mV 2) aNil)) (cw0 rs p cd .un) = .nx (cw0 rs p cd (.dat (.tup (iL c)))) := asg_ok (meth_run rfl ob_ck rfl (checked_ok g hi hc))
  have tl := too_long_ok g (cd := .tup (iL c)) (.inr rfl)
  rw [hL] at tl
  have s3 : (sFor (mIter (mMeth "Draft" "too_long" F_Draft_too_long (mV 0) (aCons (mV 3) aNil))) (gN 4) M_Draft_coded_words_b1) (cw0 rs p cd (.dat (.tup (iL c)))) = .nx (cw0 rs p cd (.dat (.tup (iL c)))) := for_nx (iter_ok (meth_run rfl ob6 rfl tl) rfl) rfl
  have s4 : (sAsg 5 (mMeth "Draft" "begins" F_Draft_begins (mV 0) (aCons (mV 3) aNil))) (cw0 rs p cd (.dat (.tup (iL c)))) = .nx (cwS rs c p (.dat cd)) := asg_ok (meth_run rfl ob4 rfl (begins_ok (.inr rfl) g.good g.len))
  have s5 := asg_ok (i := 6) (dc_ok g (c := c) (p := p) (X2 := .dat cd))
  have s6 : sAsgO 7 (mShort aNil) ((cwS rs c p (.dat cd)).set 6 (.dat (.dct true (esOf rs c p)))) = .nx (cwE rs c p (.dat cd) .un .un []) := rfl
  rw [List.nil_append] at lp
  exact run_rtO (r := cw0 rs p cd .un) rfl rfl (seq_nx (cw_s1 hp) (seq_nx s2 (seq_nx s3 (seq_nx s4 (seq_nx s5 (seq_nx s6 (seq_nx (for_nx it lp) (retOwn_ok rfl))))))))
theorem cw_long {rs : List Row} (h : Dft true rs) {c : List Int} (hc : Chc rs c) {cd : D} (hi : InC cd c) {p : Str} (hp : p = "m" ∨ p = "code" ∨ p = "la") {k : Int} {t : List Int} (hL : long rs c = k :: t) :
    F_Draft_coded_words [dr rs, .str p, cd] = .exc "TooLong" [("index", .int k)] := by
  have g := h.g
  have s2 : sAsg 3 (mMeth "Draft" "checked" F_Draft_checked (mV 0) (aCons (mV 2) aNil)) (cw0 rs p cd .un) = .nx (cw0 rs p cd (.dat (.tup (iL c)))) := asg_ok (meth_run rfl ob_ck rfl (checked_ok g hi hc))
  have tl := too_long_ok g (cd := .tup (iL c)) (.inr rfl)
  rw [hL] at tl
  have s3 : (sFor (mIter (mMeth "Draft" "too_long" F_Draft_too_long (mV 0) (aCons (mV 3) aNil))) (gN 4) M_Draft_coded_words_b1) (cw0 rs p cd (.dat (.tup (iL c)))) = .exc "TooLong" [("index", .int k)] := for_nx (iter_ok (meth_run rfl ob6 rfl tl) rfl) (forL_exc (r1 := (cw0 rs p cd (.dat (.tup (iL c)))).set 4 (.dat (.int k))) rfl rfl)
  exact run_exc (r := cw0 rs p cd .un) rfl rfl (seq_nx (cw_s1 hp) (seq_nx s2 (seq_exc s3)))
end P

namespace P
open PySem PyProof.Rows L2 DL
/-! ### the law's own coding -/
theorem far_put {rs : List Row} (h : Dft true rs) {c : List Int} {p : Str} (hp : p = "m" ∨ p = "code" ∨ p = "la") {i : Nat} {cc l : Str} {x : Int} (hr : rs[i]? = some (.b cc l x)) : F_law_put_in [sm x [us "name" l 1], .dct false (lsOf rs c), .str p] = .ok (if leads rs i then sm x [us "name" l 1] else sm (begAt rs c (spotOf rs i)) [us "piece" p 1]) := by
  have ho : okL true (.b cc l x) := h.ok _ (List.mem_of_getElem? hr)
  have nm : nameAt rs i = l := by simp [nameAt, hr, Row.name]
  have lk := look_ls rs c l
  by_cases hl : leads rs i = true
  · simp only [hl, if_true]
    have : lookS (spots rs) l = none := by
      unfold leads at hl
      rw [nm] at hl
      simpa using hl
    rw [this] at lk
    have lk : lookT false (lsOf rs c) (.str l) = some none := lk
    have q := ho.2.1
    simp only [List.mem_cons, List.not_mem_nil, or_false] at q
    rcases q with rfl | rfl | rfl | rfl | rfl
    · exact law_run (forL_cons rfl (law_oth (fs' := [(un "la", .int 1)]) (oth_n lk) (by kernel_rfl) (by simp)) forL_nil) (by kernel_rfl)
    · exact law_run (forL_cons rfl (law_oth (fs' := [(un "lb", .int 1)]) (oth_n lk) (by kernel_rfl) (by simp)) forL_nil) (by kernel_rfl)
    · exact law_run (forL_cons rfl (law_oth (fs' := [(un "lc", .int 1)]) (oth_n lk) (by kernel_rfl) (by simp)) forL_nil) (by kernel_rfl)
    · exact law_run (forL_cons rfl (law_oth (fs' := [(un "ld", .int 1)]) (oth_n lk) (by kernel_rfl) (by simp)) forL_nil) (by kernel_rfl)
    · exact law_run (forL_cons rfl (law_oth (fs' := [(un "away", .int 1)]) (oth_n lk) (by kernel_rfl) (by simp)) forL_nil) (by kernel_rfl)
  · have hl2 : leads rs i = false := by simpa using hl
    simp only [hl2, Bool.false_eq_true, if_false]
    have hb := br_mem hr
    have hop : (i : Int) ∈ opens rs := List.mem_filter.mpr ⟨hb, by simp [hl2]⟩
    have lo := opens_look hop
    rw [nm] at lo
    rw [lo] at lk
    have lk : lookT false (lsOf rs c) (.str l) = some (some (.int (begAt rs c (spotOf rs i)))) := lk
    have hx : x = 0 := by
      rcases ho.2.2 with e | e
      · subst e
        rw [no_away h] at lo
        cases lo
      · exact e
    subst hx
    have e : (0 : Int) + 1 * begAt rs c (spotOf rs i) = begAt rs c (spotOf rs i) := by omega
    have fin : F_law_put_in [sm 0 [us "name" l 1], .dct false (lsOf rs c), .str p] = .ok (sm (0 + 1 * begAt rs c (spotOf rs i)) [us "piece" p 1]) := by
      rcases hp with rfl | rfl | rfl
      · exact law_run (forL_cons rfl (law_lab (fs' := [(pu "m", .int 1)]) lk rfl (by kernel_rfl) (by simp)) forL_nil) (by kernel_rfl)
      · exact law_run (forL_cons rfl (law_lab (fs' := [(pu "code", .int 1)]) lk rfl (by kernel_rfl) (by simp)) forL_nil) (by kernel_rfl)
      · exact law_run (forL_cons rfl (law_lab (fs' := [(pu "la", .int 1)]) lk rfl (by kernel_rfl) (by simp)) forL_nil) (by kernel_rfl)
    rw [e] at fin
    exact fin
abbrev lcE (rs : List Row) (c : List Int) (p : Str) (cd : D) (x8 x9 x10 : Sl) (found : List D) : DEnv := [.dat (.lst (rs.map Row.d)), .dat cd, .dat (.str p), .dat (.dct false (lsOf rs c)), .dat (.lst (iL (begins rs c))), .dat (.dct false ((waysK rs c).map kd)), .dat (.dct false ((spK (spots rs)).map kd)), .own false found, x8, x9, x10, .un, .un]
theorem lc_turn {rs : List Row} (h : Dft true rs) {c : List Int} (hc : Chc rs c) {cd : D} (hi : InC cd c) {p : Str} (hp : p = "m" ∨ p = "code" ∨ p = "la") {i : Nat} {r : Row} (hr : rs[i]? = some r) {found : List D} (hf : found.length ≤ 10000) (x10 : Sl) :
    ∃ y10, M_law_coded_b1 (lcE rs c p cd (.dat (.int i)) (.dat r.d) x10 found) = .nx (lcE rs c p cd (.dat (.int i)) (.dat r.d) y10 (found ++ outW rs c p i r)) := by
  have hm : r ∈ rs := List.mem_of_getElem? hr
  have ho := h.ok r hm
  have hn := nat_len hr
  have few : Few (found ++ outW rs c p i r) := by
    have := outW_len (rs := rs) (c := c) (p := p) (i := i) ho
    simp [Few]; omega
  cases r with
  | w l =>
    refine ⟨x10, ?_⟩
    have lc : (mLc (mIter (mOp gSub (mV 9) (mC (.int 1)))) (gN 12) mYes (mCall F_law_put_in (aCons (mV 12) (aCons (mV 3) (aCons (mV 2) aNil)))) [12]) (lcE rs c p cd (.dat (.int i)) (.dat (Row.w l).d) x10 found) = .ok (l.map (wout (esOf rs c p))) (lcE rs c p cd (.dat (.int i)) (.dat (Row.w l).d) x10 found) :=
      mLc_all (l := l) (·.1) (wout (esOf rs c p)) (iter_ok (op_ok rfl rfl rfl) rfl) rfl (by have := ho.1; omega) fun q hq => ⟨(lcE rs c p cd (.dat (.int i)) (.dat (Row.w l).d) x10 found).set 12 (.dat q.1), rfl, rfl, rfl, call_ok (acons_ok rfl (acons_ok rfl (acons_ok rfl rfl))) (wout_ok h hp (ho.2 q hq)).2.1⟩
    exact seq_nx (if_t (op_ok (op_ok rfl rfl rfl) rfl (by kernel_rfl : gEq (.str "words") (.str "words") = some (.bl true))) (ext_w rfl (frz_ok lc) few)) (seq_nx (if_f (op_ok (op_ok rfl rfl rfl) rfl (by kernel_rfl : gEq (.str "words") (.str "even") = some (.bl false))) rfl) (if_f (op_ok (op_ok rfl rfl rfl) rfl (by kernel_rfl : gEq (.str "words") (.str "branch") = some (.bl false))) rfl))
  | e m =>
    refine ⟨x10, ?_⟩
    have h1 : 1 ≤ m := ho.2.1
    have h2 : m ≤ 64 := ho.2.2
    have l1 : (m - (begins rs c).getD i 0 % m) % m < m := Int.emod_lt_of_pos _ (by omega)
    have l2 : 0 ≤ (m - (begins rs c).getD i 0 % m) % m := Int.emod_nonneg _ (by omega)
    have a1 : gSub (.lst (iL (begins rs c))) (.int (i : Int)) = some (.int ((begins rs c).getD i 0)) := at_beg (by omega)
    have a2 : gSub (.lst (iL (begins rs c))) (.int ((i : Int) + 1)) = some (.int ((begins rs c).getD (i + 1) 0)) := at_beg (n := i + 1) (by omega)
    have g := beg_gap (c := c) hr
    have rp := rep_any (sm 9 []) l2 (by omega)
    rw [← g] at rp
    have rp : lRep (.lst [sm 9 []]) (.int ((begins rs c).getD (i + 1) 0 - (begins rs c).getD i 0)) = some (.lst (outW rs c p i (.e m))) := by
      rw [rp]
      simp only [outW, g]
    exact seq_nx (if_f (op_ok (op_ok rfl rfl rfl) rfl (by kernel_rfl : gEq (.str "even") (.str "words") = some (.bl false))) rfl) (seq_nx (if_t (op_ok (op_ok rfl rfl rfl) rfl (by kernel_rfl : gEq (.str "even") (.str "even") = some (.bl true))) (ext_w rfl (op_ok (lst_ok (acons_ok (tup2_ok rfl (tup_ok rfl (by simp))) rfl) (by simp)) (op_ok (op_ok rfl (op_ok rfl rfl rfl) a2) (op_ok rfl rfl a1) rfl) rp) few)) (if_f (op_ok (op_ok rfl rfl rfl) rfl (by kernel_rfl : gEq (.str "even") (.str "branch") = some (.bl false))) rfl))
  | b cc l x =>
    refine ⟨.dat (.int (codeN cc)), ?_⟩
    have hb := br_mem hr
    have s1 : sAsg 10 (mOp gSub (mDisp [((mC (.str "ask")), (mC (.int 3))), ((mC (.str "go")), (mC (.int 5))), ((mC (.str "call")), (mC (.int 14)))]) (mOp gSub (mV 9) (mC (.int 1)))) (lcE rs c p cd (.dat (.int i)) (.dat (Row.b cc l x).d) x10 found) = .nx (lcE rs c p cd (.dat (.int i)) (.dat (Row.b cc l x).d) (.dat (.int (codeN cc))) found) := asg_ok (op_ok rfl (op_ok rfl rfl rfl) (code_get ho.1))
    have t1 : (mOp gNotInG (mV 8) (mV 1)) (lcE rs c p cd (.dat (.int i)) (.dat (Row.b cc l x).d) (.dat (.int (codeN cc))) found) = .ok (.bl (!c.contains (i : Int))) (lcE rs c p cd (.dat (.int i)) (.dat (Row.b cc l x).d) (.dat (.int (codeN cc))) found) := op_ok rfl rfl (notInI hi _)
    have fin : ∀ (b1 b2 : MS), sIf (mOp gNotInG (mV 8) (mV 1)) b1 b2 (lcE rs c p cd (.dat (.int i)) (.dat (Row.b cc l x).d) (.dat (.int (codeN cc))) found) = .nx (lcE rs c p cd (.dat (.int i)) (.dat (Row.b cc l x).d) (.dat (.int (codeN cc))) (found ++ outW rs c p i (.b cc l x))) → (sSeq (sIf (mOp gEq (mOp gSub (mV 9) (mC (.int 0))) (mC (.str "words"))) (sExt 7 (mFrz (mLc (mIter (mOp gSub (mV 9) (mC (.int 1)))) (gN 12) mYes (mCall F_law_put_in (aCons (mV 12) (aCons (mV 3) (aCons (mV 2) aNil)))) [12]))) sNil)
  (sSeq (sIf (mOp gEq (mOp gSub (mV 9) (mC (.int 0))) (mC (.str "even"))) (sExt 7 (mOp lRep (mAgs gLstD (aCons (mAgs gTupD (aCons (mC (.int 9)) (aCons (mAgs gTupD aNil) aNil))) aNil)) (mOp iSub (mOp gSub (mV 4) (mOp gAdd (mV 8) (mC (.int 1)))) (mOp gSub (mV 4) (mV 8))))) sNil)
  (sIf (mOp gEq (mOp gSub (mV 9) (mC (.int 0))) (mC (.str "branch"))) (sSeq (sAsg 10 (mOp gSub (mDisp [((mC (.str "ask")), (mC (.int 3))), ((mC (.str "go")), (mC (.int 5))), ((mC (.str "call")), (mC (.int 14)))]) (mOp gSub (mV 9) (mC (.int 1)))))
  (sIf (mOp gNotInG (mV 8) (mV 1)) b1 b2)) sNil))) (lcE rs c p cd (.dat (.int i)) (.dat (Row.b cc l x).d) x10 found) = .nx (lcE rs c p cd (.dat (.int i)) (.dat (Row.b cc l x).d) (.dat (.int (codeN cc))) (found ++ outW rs c p i (.b cc l x))) := by
      intro b1 b2 q
      exact seq_nx (if_f (op_ok (op_ok rfl rfl rfl) rfl (by kernel_rfl : gEq (.str "branch") (.str "words") = some (.bl false))) rfl) (seq_nx (if_f (op_ok (op_ok rfl rfl rfl) rfl (by kernel_rfl : gEq (.str "branch") (.str "even") = some (.bl false))) rfl) (if_t (op_ok (op_ok rfl rfl rfl) rfl (by kernel_rfl : gEq (.str "branch") (.str "branch") = some (.bl true))) (seq_nx s1 q)))
    refine fin _ _ ?_
    by_cases hh : c.contains (i : Int) = true
    · rw [hh] at t1
      have fp := far_put h (c := c) hp hr
      have oe : outW rs c p i (.b cc l x) = [sm (codeN cc + 1) [], if leads rs i then sm x [us "name" l 1] else sm (begAt rs c (spotOf rs i)) [us "piece" p 1]] := by
        simp only [outW, hh, if_true]
        split <;> rfl
      rw [oe]
      have few1 : Few (found ++ [sm (codeN cc + 1) []]) := by simp [Few]; omega
      have few2 : Few ((found ++ [sm (codeN cc + 1) []]) ++ [if leads rs i then sm x [us "name" l 1] else sm (begAt rs c (spotOf rs i)) [us "piece" p 1]]) := by simp [Few]; omega
      have es : found ++ [sm (codeN cc + 1) [], if leads rs i then sm x [us "name" l 1] else sm (begAt rs c (spotOf rs i)) [us "piece" p 1]] = (found ++ [sm (codeN cc + 1) []]) ++ [if leads rs i then sm x [us "name" l 1] else sm (begAt rs c (spotOf rs i)) [us "piece" p 1]] := by simp
      rw [es]
      exact if_f t1 (seq_nx (r1 := lcE rs c p cd (.dat (.int i)) (.dat (Row.b cc l x).d) (.dat (.int (codeN cc))) (found ++ [sm (codeN cc + 1) []])) (app_w rfl (tup2_ok (op_ok rfl rfl rfl) (tup_ok rfl (by simp))) few1) (app_w rfl (call_ok (acons_ok (tup2_ok (op_ok rfl rfl rfl) (tup_ok (acons_ok (tup2_ok (tup2_ok rfl (op_ok rfl rfl rfl)) rfl) rfl) (by simp))) (acons_ok rfl (acons_ok rfl rfl))) fp) few2))
    · have hh : c.contains (i : Int) = false := by simpa using hh
      rw [hh] at t1
      have hop : (i : Int) ∈ opens rs := by
        refine List.mem_filter.mpr ⟨hb, ?_⟩
        cases q : leads rs i with
        | false => rfl
        | true =>
          have := hc.out i (List.mem_filter.mpr ⟨hb, q⟩)
          simp [this] at hh
      have oe : outW rs c p i (.b cc l x) = [sm (codeN cc + 2048 * wayOf rs c i) []] := by simp only [outW, hh, Bool.false_eq_true, if_false]
      rw [oe] at few ⊢
      exact if_t t1 (app_w rfl (tup2_ok (op_ok rfl (op_ok rfl (op_ok rfl rfl (get_way hop)) (isv_mul rfl)) rfl) (tup_ok rfl (by simp))) few)
  | lb l =>
    refine ⟨x10, ?_⟩
    rw [show outW rs c p i (.lb l) = [] from rfl, List.append_nil]
    exact seq_nx (if_f (op_ok (op_ok rfl rfl rfl) rfl (by kernel_rfl : gEq (.str "label") (.str "words") = some (.bl false))) rfl) (seq_nx (if_f (op_ok (op_ok rfl rfl rfl) rfl (by kernel_rfl : gEq (.str "label") (.str "even") = some (.bl false))) rfl) (if_f (op_ok (op_ok rfl rfl rfl) rfl (by kernel_rfl : gEq (.str "label") (.str "branch") = some (.bl false))) rfl))
theorem lc_loop {rs : List Row} (h : Dft true rs) {c : List Int} (hc : Chc rs c) {cd : D} (hi : InC cd c) {p : Str} (hp : p = "m" ∨ p = "code" ∨ p = "la") : ∀ (suf : List Row) (k : Nat) (found : List D) (x8 x9 x10 : Sl), rs.drop k = suf → found.length + 255 * suf.length ≤ 10000 →
    ∃ y8 y9 y10, forL (gTup2 2 (gsCons (gN 8) (gsCons (gN 9) gsNil))) M_law_coded_b1 (enumF k (suf.map Row.d)) (lcE rs c p cd x8 x9 x10 found) = .nx (lcE rs c p cd y8 y9 y10 (found ++ outF rs c p k suf))
  | [], k, found, x8, x9, x10, _, _ => ⟨x8, x9, x10, by rw [outF, List.append_nil]; rfl⟩
  | r :: suf, k, found, x8, x9, x10, hs, hl => by
    obtain ⟨e1, e2⟩ := drop_get hs
    have ho := h.ok r (List.mem_of_getElem? e1)
    obtain ⟨y, t⟩ := lc_turn h hc hi hp e1 (found := found) (by simp at hl; omega) x10
    have := outW_len (rs := rs) (c := c) (p := p) (i := k) ho
    obtain ⟨y8, y9, y10, q⟩ := lc_loop h hc hi hp suf (k + 1) (found ++ outW rs c p k r) (.dat (.int k)) (.dat r.d) y e2 (by simp at hl ⊢; omega)
    refine ⟨y8, y9, y10, ?_⟩
    rw [outF, ← List.append_assoc]
    exact forL_cons (r1 := lcE rs c p cd (.dat (.int k)) (.dat r.d) x10 found) rfl t q
end P

namespace P
open PySem PyProof.Rows L2 DL
theorem ls_kd (rs : List Row) (c : List Int) : ((spots rs).map fun q => ((.inr q.1 : Key), D.int (begAt rs c q.2))).map kd = lsOf rs c := by simp [lsOf, kd, keyD]
theorem law_coded_ok {rs : List Row} (h : Dft true rs) {c : List Int} (hc : Chc rs c) {cd : D} (hi : InC cd c) {p : Str} (hp : p = "m" ∨ p = "code" ∨ p = "la") : F_law_coded [.lst (rs.map Row.d), cd, .str p] = .ok (.lst (outF rs c p 0 rs)) := by
  have g := h.g
  have ln := h.ln
  obtain ⟨y8, y9, y10, lp⟩ := lc_loop h hc hi hp rs 0 [] .un .un .un (by simp) (by simp; omega)
  rw [List.nil_append] at lp
  let R0 : DEnv := [.dat (.lst (rs.map Row.d)), .dat cd, .dat (.str p), .un, .un, .un, .un, .un, .un, .un, .un, .un, .un]
  let R1 : DEnv := [.dat (.lst (rs.map Row.d)), .dat cd, .dat (.str p), .un, .dat (.lst (iL (begins rs c))), .dat (.dct false ((waysK rs c).map kd)), .dat (.dct false ((spK (spots rs)).map kd)), .own false [], .un, .un, .un, .un, .un]
  have v : (vCons (mCall F_law_begins (aCons (mV 0) (aCons (mV 1) aNil))) (vCons (mCall F_law_ways (aCons (mV 0) (aCons (mV 1) aNil))) (vCons (mCall F_law_spots (aCons (mV 0) aNil)) (vConsO (mShort aNil) vNil)))) R0 = .ok [.d (.lst (iL (begins rs c))), .d (.dct false ((waysK rs c).map kd)), .d (.dct false ((spK (spots rs)).map kd)), .o []] R0 :=
    vcons_ok (call_ok rfl (law_begins_ok hi g.good g.len)) (vcons_ok (call_ok rfl (law_ways_ok g hi)) (vcons_ok (call_ok rfl (law_spots_ok g)) rfl))
  have s1 : (sParT [4, 5, 6, 7] (vCons (mCall F_law_begins (aCons (mV 0) (aCons (mV 1) aNil))) (vCons (mCall F_law_ways (aCons (mV 0) (aCons (mV 1) aNil))) (vCons (mCall F_law_spots (aCons (mV 0) aNil)) (vConsO (mShort aNil) vNil))))) R0 = .nx R1 :=
    parT_ok (is := [4, 5, 6, 7]) v ⟨rfl, by simp⟩
  have lc : (mLc (mIter (mV 6)) (gN 11) mYes (mAgs gTupD (aCons (mV 11) (aCons (mOp gSub (mV 4) (mOp gSub (mV 6) (mV 11))) aNil))) [11]) R1 = .ok ((spots rs).map fun q => .tup [.str q.1, .int (begAt rs c q.2)]) R1 := by
    have it : mIter (mV 6) R1 = .ok ((spots rs).map fun q => .str q.1) R1 := iter_ok rfl (by
      show some _ = _
      simp [spK, kd, keyD])
    refine mLc_all (l := spots rs) (fun q => .str q.1) _ it rfl (by have := spots_len rs; omega) fun q hq => ⟨R1.set 11 (.dat (.str q.1)), rfl, rfl, rfl, ?_⟩
    obtain ⟨n, e1, e2⟩ := spots_rng hq
    have lk : lookS (spots rs) q.1 = some q.2 := lookS_some g.nod hq
    have a1 : gSub (.lst (iL (begins rs c))) (.int q.2) = some (.int (begAt rs c q.2)) := by
      rw [e1]
      show atI (iL (begins rs c)) (n : Int) = _
      rw [at_beg (by omega)]
      simp [begAt]
    exact tup2_ok rfl (op_ok rfl (op_ok rfl rfl (get_sp lk)) a1)
  have dq := dictOf_map (fun q : Str × Int => (.inr q.1 : Key)) (fun q => .int (begAt rs c q.2)) (spots rs) (by
    have := g.nod
    have z : (spots rs).map (fun q : Str × Int => (.inr q.1 : Key)) = ((spots rs).map (·.1)).map Sum.inr := by simp [Function.comp_def]
    rw [z]
    exact List.Pairwise.map _ (fun a b h e => h (Sum.inr.inj e)) this)
  rw [ls_kd] at dq
  have s2 : sAsg 3 (mAgs (b1 gDictOf) (aCons (mFrz (mLc (mIter (mV 6)) (gN 11) mYes (mAgs gTupD (aCons (mV 11) (aCons (mOp gSub (mV 4) (mOp gSub (mV 6) (mV 11))) aNil))) [11])) aNil)) R1 = .nx (lcE rs c p cd .un .un .un []) := asg_ok (ags1_ok (frz_ok lc) dq)
  have it : (mIt enumOf (aCons (mV 0) aNil)) (lcE rs c p cd .un .un .un []) = .ok (enumF 0 (rs.map Row.d)) (lcE rs c p cd .un .un .un []) := by
    rw [← enumD_F]
    rfl
  exact run_rt (r := R0) rfl rfl (seq_nx s1 (seq_nx s2 (seq_nx (for_nx it lp) (frzS_ok rfl rfl))))
theorem outF_len {rs : List Row} {c : List Int} {p : Str} : ∀ (suf : List Row) (k : Nat), (∀ r ∈ suf, okL true r) → (outF rs c p k suf).length ≤ 255 * suf.length
  | [], _, _ => by simp [outF]
  | r :: suf, k, h => by
    have h1 := outW_len (rs := rs) (c := c) (p := p) (i := k) (h r (by simp))
    have h2 := outF_len (rs := rs) (c := c) (p := p) suf (k + 1) fun r hr => h r (by simp [hr])
    simp only [outF, List.length_append, List.length_cons]
    omega
theorem outF_pln {rs : List Row} (h : Dft true rs) {c : List Int} {p : Str} (hp : p = "m" ∨ p = "code" ∨ p = "la") : ∀ (suf : List Row) (k : Nat), (∀ r ∈ suf, okL true r) → ∀ d ∈ outF rs c p k suf, Pln 5 d
  | [], _, _, d, hd => by cases hd
  | r :: suf, k, ho, d, hd => by
    rcases List.mem_append.mp hd with z | z
    · exact outW_pln h hp (ho r (by simp)) d z
    · exact outF_pln h hp suf (k + 1) (fun r hr => ho r (by simp [hr])) d z
theorem Pln.up : ∀ {n : Nat} {d : D}, Pln n d → Pln (n + 1) d
  | _, _, .o n d a b c e => .o _ d a b c e
  | _, _, .int n i => .int _ i
  | _, _, .lst n l hl h => .lst _ l hl fun d hd => (h d hd).up
  | _, _, .tup n l hl h => .tup _ l hl fun d hd => (h d hd).up
theorem coded_pln {rs : List Row} (h : Dft true rs) {c : List Int} {p : Str} (hp : p = "m" ∨ p = "code" ∨ p = "la") : Pln 6 (.lst (outF rs c p 0 rs)) :=
  .lst _ _ (by have := outF_len (rs := rs) (c := c) (p := p) rs 0 h.ok; have := h.ln; omega) (outF_pln h hp rs 0 h.ok)
/-! ### the choices -/
theorem grow_chc {rs : List Row} : ∀ (n : Nat) (c : List Int), Chc rs c → Chc rs (grow rs n c)
  | 0, c, h => h
  | n + 1, c, h => by
    unfold grow
    split
    · exact h
    · have pm := srt_perm (c ++ long rs c)
      refine grow_chc n _ ⟨fun k hk => ?_, ?_, fun k hk => ?_, srt_sorted _⟩
      · rcases List.mem_append.mp (pm.mem_iff.mp hk) with z | z
        · exact h.sub k z
        · exact opens_brs (long_sub z).1
      · refine pm.nodup_iff.mpr (List.nodup_append.mpr ⟨h.nod, ?_, fun a ha b hb e => ?_⟩)
        · have : (long rs c).Pairwise (· < ·) := ((brs_sorted rs).filter _).filter _
          exact this.imp fun h e => by omega
        · subst e
          exact (long_sub hb).2 ha
      · exact pm.mem_iff.mpr (List.mem_append.mpr (.inl (h.out k hk)))
theorem outs_chc (rs : List Row) : Chc rs (outs rs) := by
  have hs : (outs rs).Pairwise (· < ·) := (brs_sorted rs).filter _
  exact ⟨fun k hk => (List.mem_filter.mp hk).1, hs.imp fun h e => by omega, fun k hk => hk, hs.imp fun h => by omega⟩
theorem brs_chc (rs : List Row) : Chc rs (brs rs) := by
  have hs := brs_sorted rs
  exact ⟨fun k hk => hk, hs.imp fun h e => by omega, fun k hk => (List.mem_filter.mp hk).1, hs.imp fun h => by omega⟩
end P

namespace P
open PySem PyProof.Rows L2 DL
/-! ### odd asks -/
theorem met_told {cs : List Str} {told : Str} {l : DL.Cls} {m : ME} {r r1 : DEnv} {d : D} (h : m (hideO r) = .ok d r1) : mMet cs told l m r = .ok (.tup [.str told, d]) r := by simp only [mMet, h]
theorem met_exc {cs : List Str} {told : Str} {l : DL.Cls} {m : ME} {r : DEnv} {d : D} {c : Str} {fs : List (Str × D)} (h : m (hideO r) = .exc c fs) (hc : c ∈ cs) (hm : metC fs c l = some d) : mMet cs told l m r = .ok d r := by simp only [mMet, h, hc, if_true, hm, optE]
theorem k_e : PyData.strOk "" = true := by kernel_rfl
theorem k_A : PyData.strOk "A" = true := by kernel_rfl
theorem k_ab : PyData.strOk "ab" = true := by kernel_rfl
theorem k_abc : PyData.strOk "abcdefghi" = true := by kernel_rfl
theorem k_told : PyData.strOk "told" = true := by kernel_rfl
theorem k_long : PyData.strOk "long" = true := by kernel_rfl
theorem k_choice : PyData.strOk "choice" = true := by kernel_rfl
theorem pln_non (n : Nat) : Pln (n + 1) .non := .o n _ rfl rfl rfl (by kernel_rfl)
theorem pln_dct (n : Nat) : Pln (n + 1) (.dct true []) := .o n _ rfl rfl rfl (by kernel_rfl)
theorem pln_l1 (n : Nat) {d : D} (h : Pln n d) : Pln (n + 1) (.lst [d]) := .lst _ _ (by simp) fun x hx => by
  rw [List.mem_singleton] at hx; subst hx; exact h
theorem pickOdd {s : Int} (h0 : 0 ≤ s) (h1 : s < 6) : ∃ odd, gSub (.lst [.non, .str "", .str "A", .int 5, .lst [.str "m"], .str "abcdefghi"]) (.int s) = some odd ∧ F_is_name [odd] = .ok (.bl false) ∧ Pln 6 odd := by
  have : s = 0 ∨ s = 1 ∨ s = 2 ∨ s = 3 ∨ s = 4 ∨ s = 5 := by omega
  rcases this with rfl | rfl | rfl | rfl | rfl | rfl
  · exact ⟨_, rfl, by kernel_rfl, pln_non 5⟩
  · exact ⟨_, rfl, by kernel_rfl, pln_str 5 k_e⟩
  · exact ⟨_, rfl, by kernel_rfl, pln_str 5 k_A⟩
  · exact ⟨_, rfl, by kernel_rfl, .int 5 5⟩
  · exact ⟨_, rfl, by kernel_rfl, pln_l1 5 (pln_str 4 k_m)⟩
  · exact ⟨_, rfl, by kernel_rfl, pln_str 5 k_abc⟩
def Bad (n : Int) (bad : D) : Prop := F_is_list [bad] = .ok (.bl false) ∨ bad = .lst [.int n] ∨ bad = .lst [.non]
theorem pickBad (n : Int) {s : Int} (h0 : 0 ≤ s) (h1 : s < 6) : ∃ bad, gSub (.lst [.non, .int 5, .lst [.int n], .str "ab", .dct true [], .lst [.non]]) (.int s) = some bad ∧ Bad n bad ∧ Pln 6 bad := by
  have : s = 0 ∨ s = 1 ∨ s = 2 ∨ s = 3 ∨ s = 4 ∨ s = 5 := by omega
  rcases this with rfl | rfl | rfl | rfl | rfl | rfl
  · exact ⟨_, rfl, .inl (by kernel_rfl), pln_non 5⟩
  · exact ⟨_, rfl, .inl (by kernel_rfl), .int 5 5⟩
  · exact ⟨_, rfl, .inr (.inl rfl), pln_l1 5 (.int 4 n)⟩
  · exact ⟨_, rfl, .inl (by kernel_rfl), pln_str 5 k_ab⟩
  · exact ⟨_, rfl, .inl (by kernel_rfl), pln_dct 5⟩
  · exact ⟨_, rfl, .inr (.inr rfl), pln_l1 5 (pln_non 4)⟩
theorem checked_bad {rs : List Row} (g : Good rs) {bad : D} (hb : Bad rs.length bad) : F_Draft_checked [dr rs, bad] = .exc "BadChoice" [("thing", bad)] := by
  let R0 : DEnv := [.dat (dr rs), .dat bad, .un, .un]
  let R1 : DEnv := [.dat (dr rs), .dat bad, .dat (.tup (iL (brs rs))), .un]
  have s1 : sAsg 2 (mMeth "Draft" "branches" F_Draft_branches (mV 0) aNil) R0 = .nx R1 := asg_ok (meth_ok rfl ob1 rfl (branches_ok g.len))
  have rz : sRaise "BadChoice" ["thing"] (aCons (mV 1) aNil) R1 = .exc "BadChoice" [("thing", bad)] := rfl
  have t : (mOr (mNot (mCall F_is_list (aCons (mV 1) aNil))) (mNot (mAgs (b1 gAll) (aCons (mFrz (mLc (mIter (mV 1)) (gN 3) mYes (mAnd (mCall F_is_integer (aCons (mV 3) aNil)) (mOp gInG (mV 3) (mV 2))) [3])) aNil)))) R1 = .ok (.bl true) R1 := by
    rcases hb with hb | hb | hb
    · exact or_t (not_ok (x := false) (call_ok rfl hb))
    · subst hb
      refine or_f (not_ok (x := true) (call_ok rfl (by kernel_rfl : F_is_list [.lst [.int (rs.length : Int)]] = .ok (.bl true)))) (not_ok (x := false) (ags1_ok (frz_ok (mLc_all (l := [(rs.length : Int)]) .int (fun _ => .bl false) (r0 := R1) rfl rfl (by simp) fun k hk => ⟨R1.set 3 (.dat (.int k)), rfl, rfl, rfl, and_t (call_ok rfl (is_int_ok k)) (op_ok rfl rfl ?_)⟩)) rfl))
      rw [List.mem_singleton] at hk
      subst hk
      refine (inI (.inr rfl) _).trans ?_
      have : (brs rs).contains (rs.length : Int) = false := by
        cases q : (brs rs).contains (rs.length : Int) with
        | false => rfl
        | true =>
          have q : (rs.length : Int) ∈ brs rs := by simpa using q
          obtain ⟨n, c, l, x, e1, e2⟩ := brs_mem q
          have := nat_len e2
          omega
      rw [this]
    · subst hb
      exact or_f (not_ok (x := true) (call_ok rfl (by kernel_rfl : F_is_list [.lst [.non]] = .ok (.bl true)))) (not_ok (x := false) (ags1_ok (frz_ok (mLc_all (l := [()]) (fun _ => .non) (fun _ => .bl false) (r0 := R1) rfl rfl (by simp) fun k hk => ⟨R1.set 3 (.dat .non), rfl, rfl, rfl, and_f (call_ok rfl (by kernel_rfl : F_is_integer [.non] = .ok (.bl false)))⟩)) rfl))
  exact run_exc (r := R0) rfl rfl (seq_nx s1 (seq_exc (if_t t rz)))
theorem cw_odd {rs : List Row} {odd bad : D} (h : F_is_name [odd] = .ok (.bl false)) : F_Draft_coded_words [dr rs, odd, bad] = .exc "NoName" [("name", odd)] :=
  run_exc (r := [.dat (dr rs), .dat odd, .dat bad, .un, .un, .un, .un, .un, .un, .un, .un, .un]) rfl rfl (seq_exc (if_t (not_ok (x := false) (call_ok rfl h)) rfl))
theorem cw_bad {rs : List Row} (g : Good rs) {p : Str} (hp : p = "m" ∨ p = "code" ∨ p = "la") {bad : D} (hb : Bad rs.length bad) : F_Draft_coded_words [dr rs, .str p, bad] = .exc "BadChoice" [("thing", bad)] :=
  run_exc (r := cw0 rs p bad .un) rfl rfl (seq_nx (cw_s1 hp) (seq_exc (asg_exc (meth_exc rfl ob_ck rfl (checked_bad g hb)))))
/-! ### a turn over the choices -/
theorem b4_turn {rs : List Row} (h : Dft true rs) {c : List Int} (hc : Chc rs c) {cd : D} (hi : InC cd c) {p : Str} (hp : p = "m" ∨ p = "code" ∨ p = "la") {S dw so ou br : D} (x10 : Sl) :
    ∃ y10, M_law_b4 [.dat S, .dat dw, .dat (.lst (rs.map Row.d)), .dat (.str p), .dat so, .dat cd, .un, .dat (dr rs), .dat ou, .dat br, x10, .un, .un, .un, .un] = .nx [.dat S, .dat dw, .dat (.lst (rs.map Row.d)), .dat (.str p), .dat so, .dat cd, .un, .dat (dr rs), .dat ou, .dat br, y10, .un, .un, .un, .un] := by
  let E : Sl → DEnv := fun x => [.dat S, .dat dw, .dat (.lst (rs.map Row.d)), .dat (.str p), .dat so, .dat cd, .un, .dat (dr rs), .dat ou, .dat br, x, .un, .un, .un, .un]
  have g := h.g
  let tD : D := .tup [.str "told", .lst (outF rs c p 0 rs)]
  have s1 : M_law_s1 (E x10) = .nx (E (.dat tD)) := asg_ok (tup2_ok rfl (call_ok rfl (law_coded_ok h hc hi hp)))
  have lg : ∀ x, mCall F_law_long (aCons (mV 2) (aCons (mV 5) aNil)) (E x) = .ok (.lst (iL (long rs c))) (E x) := fun x => call_ok rfl (law_long_ok g hi)
  have t : (mOp gNe (mCall F_law_long (aCons (mV 2) (aCons (mV 5) aNil))) (mAgs gLstD aNil)) (E (.dat tD)) = .ok (.bl (!(long rs c).isEmpty)) (E (.dat tD)) := op_ok (lg _) rfl (gNe_nil _)
  cases e : long rs c with
  | nil =>
    rw [e] at t
    have s2 : M_law_s2 (E (.dat tD)) = .nx (E (.dat tD)) := if_f t rfl
    have m : mMet excs "told" cl_law_met (mMeth "Draft" "coded_words" F_Draft_coded_words (mV 7) (aCons (mV 3) (aCons (mV 5) aNil))) (E (.dat tD)) = .ok tD (E (.dat tD)) := met_told (r1 := E (.dat tD)) (meth_own rfl ob_cw rfl (cw_ok h hc hi hp e))
    have pl : Pln 8 tD := .tup _ _ (by simp) fun d hd => by
      simp only [List.mem_cons, List.not_mem_nil, or_false] at hd
      rcases hd with rfl | rfl
      · exact pln_str 6 k_told
      · exact (coded_pln h hp).up
    have s3 : M_law_s3 (E (.dat tD)) = .nx (E (.dat tD)) := if_f (not_ok (x := true) (call_ok (acons_ok m (acons_ok rfl rfl)) (same_ok pl))) rfl
    exact ⟨_, seq_nx s1 (seq_nx s2 s3)⟩
  | cons k l =>
    rw [e] at t
    let uD : D := .tup [.str "long", .int k]
    have lg2 := lg (.dat tD)
    rw [e] at lg2
    have g0 : gSub (.lst (iL (k :: l))) (.int 0) = some (.int k) := by
      show atI (iL (k :: l)) ((0 : Nat) : Int) = _
      rw [DL.atI_nat]; rfl
    have s2 : M_law_s2 (E (.dat tD)) = .nx (E (.dat uD)) := if_t t (asg_ok (tup2_ok rfl (op_ok lg2 rfl g0)))
    have m : mMet excs "told" cl_law_met (mMeth "Draft" "coded_words" F_Draft_coded_words (mV 7) (aCons (mV 3) (aCons (mV 5) aNil))) (E (.dat uD)) = .ok uD (E (.dat uD)) := met_exc (meth_exc (r0 := E (.dat uD)) (r1 := E (.dat uD)) rfl ob_cw rfl (cw_long h hc hi hp e)) (by decide) (by kernel_rfl)
    have pl : Pln 8 uD := .tup _ _ (by simp) fun d hd => by
      simp only [List.mem_cons, List.not_mem_nil, or_false] at hd
      rcases hd with rfl | rfl
      · exact pln_str 6 k_long
      · exact .int _ _
    have s3 : M_law_s3 (E (.dat uD)) = .nx (E (.dat uD)) := if_f (not_ok (x := true) (call_ok (acons_ok m (acons_ok rfl rfl)) (same_ok pl))) rfl
    exact ⟨_, seq_nx s1 (seq_nx s2 s3)⟩
end P

namespace P
open PySem PyProof.Rows L2 DL
def SZ2 : List Int := List.replicate 16 8 ++ List.replicate 12 2 ++ [6, 6, 3]
theorem SZ2_rng : ∀ z ∈ SZ2, 0 < z ∧ z < 1000 := by decide
theorem sizes2_ok (R : DEnv) : (mOp gAdd (mOp gAdd (mOp lRep (mAgs gLstD (aCons (mC (.int 8)) aNil)) (mC (.int 16))) (mOp lRep (mAgs gLstD (aCons (mC (.int 2)) aNil)) (mC (.int 12)))) (mAgs gLstD (aCons (mC (.int 6)) (aCons (mC (.int 6)) (aCons (mC (.int 3)) aNil))))) R = .ok (.lst (iL SZ2)) R := by kernel_rfl
theorem rng_at {ds zs : List Int} (h : Rng ds zs) {i : Nat} {z : Int} (hz : zs[i]? = some z) : ∃ d, ds[i]? = some d ∧ 0 ≤ d ∧ d < z := by
  have hi : i < zs.length := by
    obtain ⟨q, _⟩ := List.getElem?_eq_some_iff.mp hz
    exact q
  have hi2 : i < ds.length := by rw [h.1]; exact hi
  have hd : ds[i]? = some ds[i] := List.getElem?_eq_getElem hi2
  obtain ⟨a, b⟩ := h.2 i _ _ hd hz
  exact ⟨_, hd, a, b⟩
theorem cell_ok (ns : List Int) (t : Nat) : F_law_cell [.scr ns, .int t] = .ok (.int (ns[t]?.getD 0)) := by
  by_cases h : t < ns.length
  · have e : atI ns (t : Int) = some ns[t] := by rw [DL.atI_nat]; simp [h]
    have h' : (t : Int) < (ns.length : Int) := by omega
    simp [F_law_cell, M_law_cell, runF, h', e, h]
  · have h' : ¬ (t : Int) < (ns.length : Int) := by omega
    simp [F_law_cell, M_law_cell, runF, h', h]
theorem mk_ok {ev : Bool} {rs : List Row} (h : Dft ev rs) {a : MA} {r r1 : DEnv} (ha : a r = .ok [.lst (rs.map Row.d)] r1) : mMake "Draft" F_Draft_init a r = .ok (dr rs) r1 := by
  simp only [mMake, ha, draft_init_ok h]
  rfl
theorem pickP {s : Int} (h0 : 0 ≤ s) (h1 : s < 3) : ∃ p : Str, gSub (.lst [.str "m", .str "code", .str "la"]) (.int s) = some (.str p) ∧ (p = "m" ∨ p = "code" ∨ p = "la") := by
  have : s = 0 ∨ s = 1 ∨ s = 2 := by omega
  rcases this with rfl | rfl | rfl
  · exact ⟨_, rfl, .inl rfl⟩
  · exact ⟨_, rfl, .inr (.inl rfl)⟩
  · exact ⟨_, rfl, .inr (.inr rfl)⟩
theorem zip_I : ∀ a b : List Int, zipD (iL a) (iL b) = (a.zip b).map fun q => .tup [.int q.1, .int q.2]
  | [], b => by simp [iL, zipD]
  | x :: a, [] => by simp [iL, zipD]
  | x :: a, y :: b => by
    have := zip_I a b
    simp only [iL, List.map_cons, zipD, List.zip_cons_cons] at this ⊢
    rw [this]
def someB (rs : List Row) (ds : List Int) : List Int := (((brs rs).zip (ds.drop 16)).filter fun q => q.2 == 1 || (outs rs).contains q.1).map (·.1)
theorem zip_fst_sub : ∀ a b : List Int, ((a.zip b).map (·.1)).Sublist a
  | [], b => by simp
  | x :: a, [] => by simp
  | x :: a, y :: b => by
    simp only [List.zip_cons_cons, List.map_cons]
    exact (zip_fst_sub a b).cons₂ x
theorem zip_mem : ∀ {a b : List Int} {k : Int}, a.length ≤ b.length → k ∈ a → ∃ d, (k, d) ∈ a.zip b
  | x :: a, [], k, h, _ => by simp at h
  | x :: a, y :: b, k, h, hk => by
    rcases List.mem_cons.mp hk with rfl | hk
    · exact ⟨y, by simp⟩
    · obtain ⟨d, hd⟩ := zip_mem (a := a) (b := b) (by simp at h; omega) hk
      exact ⟨d, by simp [hd]⟩
theorem some_chc {rs : List Row} {ds : List Int} (h : rs.length ≤ (ds.drop 16).length) : Chc rs (someB rs ds) := by
  have sl : (someB rs ds).Sublist (brs rs) := (List.Sublist.map _ List.filter_sublist).trans (zip_fst_sub _ _)
  have hs : (someB rs ds).Pairwise (· < ·) := (brs_sorted rs).sublist sl
  refine ⟨fun k hk => sl.subset hk, hs.imp fun h e => by omega, fun k hk => ?_, hs.imp fun h => by omega⟩
  obtain ⟨d, hd⟩ := zip_mem (b := ds.drop 16) (by have := brs_len rs; omega) (List.mem_filter.mp hk).1
  exact List.mem_map.mpr ⟨(k, d), List.mem_filter.mpr ⟨hd, by simp [hk]⟩, rfl⟩
theorem long_all (rs : List Row) : long rs (brs rs) = [] := by
  unfold long
  rw [List.filter_eq_nil_iff]
  intro k hk
  simp [opens_brs hk]
theorem hl (ns : List Int) (_ : ns.length ≤ 63) : F_law [.scr ns] = .ok (.bl true) := by
  let S : D := .scr ns
  obtain ⟨ds, e5, hr⟩ := law_row_ok (ns[1]?.getD 0) SZ2_rng (by decide)
  have dl : ds.length = 31 := hr.1
  obtain ⟨d28, g28, l28, u28⟩ := rng_at hr (i := 28) (z := 6) (by decide)
  obtain ⟨d29, g29, l29, u29⟩ := rng_at hr (i := 29) (z := 6) (by decide)
  obtain ⟨d30, g30, l30, u30⟩ := rng_at hr (i := 30) (z := 3) (by decide)
  have at_ : ∀ {i : Nat} {d : Int}, ds[i]? = some d → gSub (.lst (iL ds)) (.int (i : Int)) = some (.int d) := fun {i d} h => by
    show atI (iL ds) (i : Int) = _
    rw [DL.atI_nat, iL, List.getElem?_map, h]
    rfl
  have c28 : gSub (.lst (iL ds)) (.int 28) = some (.int d28) := at_ g28
  have c29 : gSub (.lst (iL ds)) (.int 29) = some (.int d29) := at_ g29
  have c30 : gSub (.lst (iL ds)) (.int 30) = some (.int d30) := at_ g30
  obtain ⟨rs0, e6, hd0⟩ := draft_ok (ns[0]?.getD 0) (most := 9) (by omega) true
  obtain ⟨rs, e6b, h⟩ := with_sums_ok hd0 (ds := ds) (fun i d hi hlt => by
    have hz : SZ2[i]? = some 8 := by
      have : ∀ i < 16, SZ2[i]? = some 8 := by decide
      exact this i hlt
    exact hr.2 i d 8 hi hz) (by omega)
  have k0 : F_law_cell [.scr ns, .int 0] = .ok (.int (ns[0]?.getD 0)) := cell_ok ns 0
  have k1 : F_law_cell [.scr ns, .int 1] = .ok (.int (ns[1]?.getD 0)) := cell_ok ns 1
  have e6 : F_law_draft [.int (ns[0]?.getD 0), .int 9, .bl true] = .ok (.lst (rs0.map Row.d)) := e6
  have g := h.g
  have ln := h.ln
  obtain ⟨p, ep, hp⟩ := pickP l30 u30
  let dw : D := .lst (iL ds)
  let Rw : D := .lst (rs.map Row.d)
  let ou : D := .lst (iL (outs rs))
  let br : D := .lst (iL (brs rs))
  let so : D := .lst (iL (someB rs ds))
  let E5 : DEnv := [.dat S, .dat dw, .un, .un, .un, .un, .un, .un, .un, .un, .un, .un, .un, .un, .un]
  let E6 : DEnv := [.dat S, .dat dw, .dat Rw, .un, .un, .un, .un, .un, .un, .un, .un, .un, .un, .un, .un]
  let E7 : DEnv := [.dat S, .dat dw, .dat Rw, .un, .un, .un, .un, .dat (dr rs), .dat ou, .dat br, .un, .un, .un, .un, .un]
  let E8 : DEnv := [.dat S, .dat dw, .dat Rw, .dat (.str p), .un, .un, .un, .dat (dr rs), .dat ou, .dat br, .un, .un, .un, .un, .un]
  let E9 : Sl → Sl → DEnv := fun x5 x10 => [.dat S, .dat dw, .dat Rw, .dat (.str p), .dat so, x5, .un, .dat (dr rs), .dat ou, .dat br, x10, .un, .un, .un, .un]
  have s5 : M_law_s5 [.dat S, .un, .un, .un, .un, .un, .un, .un, .un, .un, .un, .un, .un, .un, .un] = .nx E5 := asg_ok (call_ok (acons_ok (call_ok rfl k1) (acons_ok (sizes2_ok _) rfl)) e5)
  have s6 : M_law_s6 E5 = .nx E6 := asg_ok (i := 2) (r := E5) (r1 := E5) (d := Rw) (call_ok (ds := [.lst (rs0.map Row.d), dw]) (acons_ok (call_ok (acons_ok (call_ok rfl k0) (acons_ok rfl (acons_ok rfl rfl))) e6) (acons_ok rfl rfl)) e6b)
  have s7 : M_law_s7 E6 = .nx E7 := asgT_ok (tup_ok (acons_ok (mk_ok h rfl) (acons_ok (call_ok rfl (law_outs_ok g)) (acons_ok (call_ok rfl (law_branches_ok g.len)) rfl))) (by simp)) rfl
  have s8 : M_law_s8 E7 = .nx E8 := asg_ok (op_ok rfl (op_ok rfl rfl c30) ep)
  have s9 : M_law_s9 E8 = .nx (E9 .un .un) := by
    have sl : (mSl (mV 1) (mInt (mC (.int 16))) (mC .non)) E8 = .ok (.lst (iL (ds.drop 16))) E8 := by
      have : (mSl (mV 1) (mInt (mC (.int 16))) (mC .non)) E8 = optE (gSl (.lst (iL ds)) (some 16) none) E8 := rfl
      rw [this]
      simp only [gSl, show (16 : Int) = ((16 : Nat) : Int) from rfl, cut_from]
      rfl
    have it : (mIt zipOf (aCons (mV 9) (aCons (mSl (mV 1) (mInt (mC (.int 16))) (mC .non)) aNil))) E8 = .ok (((brs rs).zip (ds.drop 16)).map fun q => .tup [.int q.1, .int q.2]) E8 := by
      refine it_ok (acons_ok rfl (acons_ok sl rfl)) ?_
      rw [← zip_I]
      rfl
    have lc := mLc_map (vs := [13, 14]) (g := gTup2 2 (gsCons (gN 13) (gsCons (gN 14) gsNil))) (c := mOr (mOp gEq (mV 14) (mC (.int 1))) (mOp gInG (mV 13) (mV 8))) (e := mV 13) (l := (brs rs).zip (ds.drop 16)) (fun q => .tup [.int q.1, .int q.2]) (fun q => q.2 == 1 || (outs rs).contains q.1) (fun q => .int q.1) it rfl (by
      rw [List.length_zip]
      have := brs_len rs
      omega) fun q hq => ⟨(E8.set 13 (.dat (.int q.1))).set 14 (.dat (.int q.2)), rfl, rfl, or_ok (r1 := (E8.set 13 (.dat (.int q.1))).set 14 (.dat (.int q.2))) (op_ok rfl rfl gEq_int) (fun _ => op_ok rfl rfl (inI (.inl rfl) _)) (fun _ => rfl), fun _ => rfl⟩
    have e : (((brs rs).zip (ds.drop 16)).filter fun q => q.2 == 1 || (outs rs).contains q.1).map (fun q => D.int q.1) = iL (someB rs ds) := by
      simp [someB, iL, Function.comp_def]
    rw [e] at lc
    exact asg_ok (frz_ok lc)
  have ch1 := some_chc (rs := rs) (ds := ds) (by simp; omega)
  obtain ⟨y1, t1⟩ := b4_turn h ch1 (.inl rfl) hp (S := S) (dw := dw) (so := so) (ou := ou) (br := br) .un
  obtain ⟨y2, t2⟩ := b4_turn h (outs_chc rs) (.inl rfl) hp (S := S) (dw := dw) (so := so) (ou := ou) (br := br) y1
  obtain ⟨y3, t3⟩ := b4_turn h (brs_chc rs) (.inl rfl) hp (S := S) (dw := dw) (so := so) (ou := ou) (br := br) y2
  obtain ⟨y4, t4⟩ := b4_turn h (grow_chc 1000 _ (outs_chc rs)) (.inr rfl) hp (S := S) (dw := dw) (so := so) (ou := ou) (br := br) y3
  let F : DEnv := E9 (.dat (.tup (iL (grow rs 1000 (outs rs))))) y4
  have s10 : M_law_s10 (E9 .un .un) = .nx F := for_nx (iter_ok (tup_ok (acons_ok rfl (acons_ok rfl (acons_ok rfl (acons_ok (call_ok rfl (law_grown_ok g)) rfl)))) (by simp)) rfl) (forL_cons rfl t1 (forL_cons rfl t2 (forL_cons rfl t3 (forL_cons rfl t4 forL_nil))))
  have hb := brs_chc rs
  have hlong := long_all rs
  have oL := outF_len (rs := rs) (c := brs rs) (p := p) rs 0 h.ok
  have s11 : M_law_s11 F = .nx F := by
    have o2 : mMethO "Draft" "coded_words" F_Draft_coded_words (mV 7) (aCons (mV 3) (aCons (mV 9) aNil)) F = .ok (outF rs (brs rs) p 0 rs) F := methO_own rfl ob_cw rfl (cw_ok h hb (.inl rfl) hp hlong)
    have cM : (mC (.str "more")) F = .ok (.str "more") F := rfl
    have lf : (outF rs (brs rs) p 0 rs).length < 16777216 := by omega
    simp only [M_law_s11, sAppT, o2, cM, lf, if_true]
  have s12 : M_law_s12 F = .nx F := if_f (not_ok (x := true) (call_ok (acons_ok (meth_own rfl ob_cw (acons_ok rfl (acons_ok (ags1_ok rfl rfl) rfl)) (cw_ok h hb (.inr rfl) hp hlong)) (acons_ok (call_ok rfl (law_coded_ok h hb (.inl rfl) hp)) rfl)) (same_ok (coded_pln h hp).up.up))) rfl
  obtain ⟨odd, o1, o2, o3⟩ := pickOdd l28 u28
  obtain ⟨bad, b1, b2, b3⟩ := pickBad (rs.length : Int) l29 u29
  let G : Sl → DEnv := fun x6 => [.dat S, .dat dw, .dat Rw, .dat (.str p), .dat so, .dat (.tup (iL (grow rs 1000 (outs rs)))), x6, .dat (dr rs), .dat ou, .dat br, y4, .dat odd, .dat bad, .un, .un]
  have gl : gLen Rw = some (.int (rs.length : Int)) := by
    show some (D.int ((rs.map Row.d).length : Int)) = _
    rw [List.length_map]
  have s13 : M_law_s13 F = .nx (G .un) := asgT_ok (tup2_ok (op_ok rfl (op_ok rfl rfl c28) o1) (op_ok (lst_ok (acons_ok rfl (acons_ok rfl (acons_ok (lst_ok (acons_ok (ags1_ok rfl gl) rfl) (by simp)) (acons_ok rfl (acons_ok rfl (acons_ok rfl rfl)))))) (by simp)) (op_ok rfl rfl c29) b1)) rfl
  let oD : D := .tup [.str "name", odd]
  let bD : D := .tup [.str "choice", bad]
  have m1 : mMet excs "told" cl_law_met (mMeth "Draft" "coded_words" F_Draft_coded_words (mV 7) (aCons (mV 11) (aCons (mV 12) aNil))) (G .un) = .ok oD (G .un) := met_exc (meth_exc (r0 := hideO (G .un)) (r1 := hideO (G .un)) rfl ob_cw rfl (cw_odd o2)) (by decide) (by kernel_rfl)
  have s14 : M_law_s14 (G .un) = .nx (G (.own false [oD])) := asgO_ok (short_ok (acons_ok m1 rfl) (by simp))
  have m2 : mMet excs "told" cl_law_met (mMeth "Draft" "coded_words" F_Draft_coded_words (mV 7) (aCons (mV 3) (aCons (mV 12) aNil))) (G (.own false [oD])) = .ok bD (G (.own false [oD])) := met_exc (meth_exc (r0 := hideO (G .un)) (r1 := hideO (G .un)) rfl ob_cw rfl (cw_bad g hp b2)) (by decide) (by kernel_rfl)
  have s15 : M_law_s15 (G (.own false [oD])) = .nx (G (.own false [oD, bD])) := DL.app_ok (i := 6) (l := [oD]) rfl m2 (by simp)
  have pl : Pln 8 (.lst [oD, bD]) := .lst _ _ (by simp) fun d hd => by
    simp only [List.mem_cons, List.not_mem_nil, or_false] at hd
    rcases hd with rfl | rfl
    · exact .tup _ _ (by simp) fun d hd => by
        simp only [List.mem_cons, List.not_mem_nil, or_false] at hd
        rcases hd with rfl | rfl
        · exact pln_str 5 k_name
        · exact o3
    · exact .tup _ _ (by simp) fun d hd => by
        simp only [List.mem_cons, List.not_mem_nil, or_false] at hd
        rcases hd with rfl | rfl
        · exact pln_str 5 k_choice
        · exact b3
  have s16 : M_law_s16 (G (.own false [oD, bD])) = .rt (.bl true) (G (.dat (.lst [oD, bD]))) := frzS_ok rfl (ret_ok (call_ok (acons_ok rfl (acons_ok (lst_ok (acons_ok (tup2_ok rfl rfl) (acons_ok (tup2_ok rfl rfl) rfl)) (by simp)) rfl)) (same_ok pl)))
  exact run_rt (r := [.dat S, .un, .un, .un, .un, .un, .un, .un, .un, .un, .un, .un, .un, .un, .un]) rfl rfl (seq_nx s5 (seq_nx s6 (seq_nx s7 (seq_nx s8 (seq_nx s9 (seq_nx s10 (seq_nx s11 (seq_nx s12 (seq_nx s13 (seq_nx s14 (seq_nx s15 s16)))))))))))
end P

open PySem PySem.W PyProof.Rows
set_option Elab.async false
set_option maxRecDepth 100000
set_option maxHeartbeats 0
set_option pp.maxSteps 300
set_option pp.deepTerms false
theorem PySem.Challenge.cw_loadanywhere_k58_coded_words_holds : PySem.Challenge.rw_loadanywhere_k58_coded_words.Holds := by
  w_on; o_law; k_head; (case hw => w_witness2)
  k_fill
  refine LamX.walk_ofTs (l := PySem.Challenge.rw_loadanywhere_k58_coded_words) (n := 63) (k := 10) (x := "_law_script") (CX := fun w => L2.CX P.Pr w) rfl (by decide) rfl ⟨rfl, by decide, by decide⟩ (fun w h Y => PySem.W.km_in_of Y) ?F (fun w H s e s' z => by obtain ⟨_, _, _, _, _, _, _, _, _, _, _, _, y⟩ := z; exact y)
  case F =>
    intro w mg fa h Y KX G hmg
    refine' P.law_at KX G (P.txt_mk KX G ?ka_Draft ?kg_Draft ?kd_Draft ?ko_Draft ?ks_Draft ?km_Draft ?kk_Draft ?kn_Draft_draft_rows ?kn_Draft_labels ?a0 ?l0 ?c0_ ?k0 ?a1 ?l1 ?c1_ ?k1 ?a2 ?l2 ?c2_ ?k2 ?a3 ?l3 ?c3_ ?k3 ?a4 ?l4 ?c4_ ?k4 ?a5 ?l5 ?c5_ ?k5 ?a6 ?l6 ?c6_ ?k6 ?a7 ?l7 ?c7_ ?k7 ?a8 ?l8 ?c8_ ?k8 ?a9 ?l9 ?c9_ ?k9 ?a10 ?l10 ?c10_ ?k10 ?a11 ?l11 ?c11_ ?k11 ?a12 ?l12 ?c12_ ?k12 ?a13 ?l13 ?c13_ ?k13 ?a14 ?l14 ?c14_ ?k14 ?a15 ?l15 ?c15_ ?k15 ?a16 ?l16 ?c16_ ?k16 ?a17 ?i17_ ?l17 ?c17_ ?k17 ?a18 ?l18 ?c18_ ?k18 ?a19 ?l19 ?c19_ ?k19 ?a20 ?l20 ?c20_ ?k20 ?a21 ?l21 ?c21_ ?k21 ?a22 ?l22 ?c22_ ?k22 ?a23 ?l23 ?c23_ ?k23 ?a24 ?l24 ?c24_ ?k24 ?a25 ?l25 ?c25_ ?k25 ?a26 ?l26 ?c26_ ?k26 ?a27 ?l27 ?c27_ ?k27 ?a28 ?l28 ?c28_ ?k28 ?a29 ?i29_ ?l29 ?c29_ ?k29 ?a30 ?i30_ ?l30 ?c30_ ?k30 ?a31 ?i31_ ?l31 ?c31_ ?k31 ?a32 ?i32_ ?l32 ?c32_ ?k32 ?a33 ?i33_ ?l33 ?c33_ ?k33 ?a34 ?i34_ ?l34 ?c34_ ?k34 ?a35 ?i35_ ?l35 ?c35_ ?k35 ?a36 ?i36_ ?l36 ?c36_ ?k36 ?a37 ?i37_ ?l37 ?c37_ ?k37 ?a38 ?l38 ?c38_ ?k38 ?a39 ?l39 ?c39_ ?k39 ?a40 ?l40 ?c40_ ?k40 ?a41 ?l41 ?c41_ ?k41 ?a42 ?l42 ?c42_ ?k42 ?lT42 ?oT42_ ?a43 ?i43_ ?l43 ?c43_ ?k43 ?a44 ?i44_ ?l44 ?c44_ ?k44 ?a45 ?l45 ?c45_ ?k45 ?z_len ?z_int ?z_isinstance ?z_bool ?z_str ?z_list ?z_tuple ?z_dict ?z_all ?z_sorted ?z_range ?z_enumerate ?z_zip ?z_min ?z_set ?g_KINDS ?gl_KINDS ?gc_KINDS ?gd_KINDS ?gs_KINDS ?g_LONGEST ?g_LETTERS ?g_WIDEST ?g_CODES_drafts ?gl_CODES_drafts ?gc_CODES_drafts ?gd_CODES_drafts ?gs_CODES_drafts ?gl_CODES_drafts_0 ?gc_CODES_drafts_0 ?gs_CODES_drafts_0 ?gl_CODES_drafts_1 ?gc_CODES_drafts_1 ?gs_CODES_drafts_1 ?gl_CODES_drafts_2 ?gc_CODES_drafts_2 ?gs_CODES_drafts_2 ?g_LOW ?g_HIGH ?g_CODES_words ?g_FIELDS ?g_STEP ?al_put_sums ?a_BadSum ?i_BadSum ?ty_BadSum ?l_BadSum ?cc_BadSum ?k_BadSum ?cl_BadSum ?ve_BadSum ?sa_BadSum ?ex_BadSum ?tc_BadSum ?kc_BadSum ?xa_BadSum ?xg_BadSum ?xh_BadSum ?no_BadSum_thing ?a_BadDraft ?i_BadDraft ?ty_BadDraft ?l_BadDraft ?cc_BadDraft ?k_BadDraft ?cl_BadDraft ?ve_BadDraft ?sa_BadDraft ?ex_BadDraft ?tc_BadDraft ?kc_BadDraft ?xa_BadDraft ?xg_BadDraft ?xh_BadDraft ?no_BadDraft_index ?a_NoName ?i_NoName ?ty_NoName ?l_NoName ?cc_NoName ?k_NoName ?cl_NoName ?ve_NoName ?sa_NoName ?ex_NoName ?tc_NoName ?kc_NoName ?xa_NoName ?xg_NoName ?xh_NoName ?no_NoName_name ?a_BadChoice ?i_BadChoice ?ty_BadChoice ?l_BadChoice ?cc_BadChoice ?k_BadChoice ?cl_BadChoice ?ve_BadChoice ?sa_BadChoice ?ex_BadChoice ?tc_BadChoice ?kc_BadChoice ?xa_BadChoice ?xg_BadChoice ?xh_BadChoice ?no_BadChoice_thing ?a_TooLong ?i_TooLong ?ty_TooLong ?l_TooLong ?cc_TooLong ?k_TooLong ?cl_TooLong ?ve_TooLong ?sa_TooLong ?ex_TooLong ?tc_TooLong ?kc_TooLong ?xa_TooLong ?xg_TooLong ?xh_TooLong ?no_TooLong_index ?a_BadField ?i_BadField ?ty_BadField ?l_BadField ?cc_BadField ?k_BadField ?cl_BadField ?ve_BadField ?sa_BadField ?ex_BadField ?tc_BadField ?kc_BadField ?xa_BadField ?xg_BadField ?xh_BadField ?no_BadField_name ?m_BadSum_NoName ?m_BadSum_BadChoice ?m_BadSum_TooLong ?m_BadDraft_NoName ?m_BadDraft_BadChoice ?m_BadDraft_TooLong ?m_NoName_NoName ?m_NoName_BadChoice ?m_NoName_TooLong ?m_BadChoice_NoName ?m_BadChoice_BadChoice ?m_BadChoice_TooLong ?m_TooLong_NoName ?m_TooLong_BadChoice ?m_TooLong_TooLong ?m_BadField_NoName ?m_BadField_BadChoice ?m_BadField_TooLong) hmg ?aL ?lL ?cL (PySem.W.km_tabs_of Y _ (.head _)) ?n2 (DL.chd_mk ?lC ?h2) P.hl
    (case ka_Draft => k_is)
    (case kg_Draft => k_is)
    (case kd_Draft => k_is)
    (case ko_Draft => k_is)
    (case ks_Draft => k_is)
    (case km_Draft => k_is)
    (case kk_Draft => k_is)
    (case kn_Draft_draft_rows => k_is)
    (case kn_Draft_labels => k_is)
    (case a0 => k_is)
    (case l0 => k_is)
    (case c0_ => k_is)
    (case k0 => k_is)
    (case a1 => k_is)
    (case l1 => k_is)
    (case c1_ => k_is)
    (case k1 => k_is)
    (case a2 => k_is)
    (case l2 => k_is)
    (case c2_ => k_is)
    (case k2 => k_is)
    (case a3 => k_is)
    (case l3 => k_is)
    (case c3_ => k_is)
    (case k3 => k_is)
    (case a4 => k_is)
    (case l4 => k_is)
    (case c4_ => k_is)
    (case k4 => k_is)
    (case a5 => k_is)
    (case l5 => k_is)
    (case c5_ => k_is)
    (case k5 => k_is)
    (case a6 => k_is)
    (case l6 => k_is)
    (case c6_ => k_is)
    (case k6 => k_is)
    (case a7 => k_is)
    (case l7 => k_is)
    (case c7_ => k_is)
    (case k7 => k_is)
    (case a8 => k_is)
    (case l8 => k_is)
    (case c8_ => k_is)
    (case k8 => k_is)
    (case a9 => k_is)
    (case l9 => k_is)
    (case c9_ => k_is)
    (case k9 => k_is)
    (case a10 => k_is)
    (case l10 => k_is)
    (case c10_ => k_is)
    (case k10 => k_is)
    (case a11 => k_is)
    (case l11 => k_is)
    (case c11_ => k_is)
    (case k11 => k_is)
    (case a12 => k_is)
    (case l12 => k_is)
    (case c12_ => k_is)
    (case k12 => k_is)
    (case a13 => k_is)
    (case l13 => k_is)
    (case c13_ => k_is)
    (case k13 => k_is)
    (case a14 => k_is)
    (case l14 => k_is)
    (case c14_ => k_is)
    (case k14 => k_is)
    (case a15 => k_is)
    (case l15 => k_is)
    (case c15_ => k_is)
    (case k15 => k_is)
    (case a16 => k_is)
    (case l16 => k_is)
    (case c16_ => k_is)
    (case k16 => k_is)
    (case a17 => k_is)
    (case i17_ => k_is)
    (case l17 => k_is)
    (case c17_ => k_is)
    (case k17 => k_is)
    (case a18 => k_is)
    (case l18 => k_is)
    (case c18_ => k_is)
    (case k18 => k_is)
    (case a19 => k_is)
    (case l19 => k_is)
    (case c19_ => k_is)
    (case k19 => k_is)
    (case a20 => k_is)
    (case l20 => k_is)
    (case c20_ => k_is)
    (case k20 => k_is)
    (case a21 => k_is)
    (case l21 => k_is)
    (case c21_ => k_is)
    (case k21 => k_is)
    (case a22 => k_is)
    (case l22 => k_is)
    (case c22_ => k_is)
    (case k22 => k_is)
    (case a23 => k_is)
    (case l23 => k_is)
    (case c23_ => k_is)
    (case k23 => k_is)
    (case a24 => k_is)
    (case l24 => k_is)
    (case c24_ => k_is)
    (case k24 => k_is)
    (case a25 => k_is)
    (case l25 => k_is)
    (case c25_ => k_is)
    (case k25 => k_is)
    (case a26 => k_is)
    (case l26 => k_is)
    (case c26_ => k_is)
    (case k26 => k_is)
    (case a27 => k_is)
    (case l27 => k_is)
    (case c27_ => k_is)
    (case k27 => k_is)
    (case a28 => k_is)
    (case l28 => k_is)
    (case c28_ => k_is)
    (case k28 => k_is)
    (case a29 => k_is)
    (case i29_ => k_is)
    (case l29 => k_is)
    (case c29_ => k_is)
    (case k29 => k_is)
    (case a30 => k_is)
    (case i30_ => k_is)
    (case l30 => k_is)
    (case c30_ => k_is)
    (case k30 => k_is)
    (case a31 => k_is)
    (case i31_ => k_is)
    (case l31 => k_is)
    (case c31_ => k_is)
    (case k31 => k_is)
    (case a32 => k_is)
    (case i32_ => k_is)
    (case l32 => k_is)
    (case c32_ => k_is)
    (case k32 => k_is)
    (case a33 => k_is)
    (case i33_ => k_is)
    (case l33 => k_is)
    (case c33_ => k_is)
    (case k33 => k_is)
    (case a34 => k_is)
    (case i34_ => k_is)
    (case l34 => k_is)
    (case c34_ => k_is)
    (case k34 => k_is)
    (case a35 => k_is)
    (case i35_ => k_is)
    (case l35 => k_is)
    (case c35_ => k_is)
    (case k35 => k_is)
    (case a36 => k_is)
    (case i36_ => k_is)
    (case l36 => k_is)
    (case c36_ => k_is)
    (case k36 => k_is)
    (case a37 => k_is)
    (case i37_ => k_is)
    (case l37 => k_is)
    (case c37_ => k_is)
    (case k37 => k_is)
    (case a38 => k_is)
    (case l38 => k_is)
    (case c38_ => k_is)
    (case k38 => k_is)
    (case a39 => k_is)
    (case l39 => k_is)
    (case c39_ => k_is)
    (case k39 => k_is)
    (case a40 => k_is)
    (case l40 => k_is)
    (case c40_ => k_is)
    (case k40 => k_is)
    (case a41 => k_is)
    (case l41 => k_is)
    (case c41_ => k_is)
    (case k41 => k_is)
    (case a42 => k_is)
    (case l42 => k_is)
    (case c42_ => k_is)
    (case k42 => k_is)
    (case lT42 => k_is)
    (case oT42_ => rfl)
    (case a43 => k_is)
    (case i43_ => k_is)
    (case l43 => k_is)
    (case c43_ => k_is)
    (case k43 => k_is)
    (case a44 => k_is)
    (case i44_ => k_is)
    (case l44 => k_is)
    (case c44_ => k_is)
    (case k44 => k_is)
    (case a45 => k_is)
    (case l45 => k_is)
    (case c45_ => k_is)
    (case k45 => k_is)
    (case z_len => k_is)
    (case z_int => k_is)
    (case z_isinstance => k_is)
    (case z_bool => k_is)
    (case z_str => k_is)
    (case z_list => k_is)
    (case z_tuple => k_is)
    (case z_dict => k_is)
    (case z_all => k_is)
    (case z_sorted => k_is)
    (case z_range => k_is)
    (case z_enumerate => k_is)
    (case z_zip => k_is)
    (case z_min => k_is)
    (case z_set => k_is)
    (case g_KINDS => k_is)
    (case gl_KINDS => k_is)
    (case gc_KINDS => rfl)
    (case gd_KINDS => rfl)
    (case gs_KINDS => rfl)
    (case g_LONGEST => k_is)
    (case g_LETTERS => k_is)
    (case g_WIDEST => k_is)
    (case g_CODES_drafts => k_is)
    (case gl_CODES_drafts => k_is)
    (case gc_CODES_drafts => rfl)
    (case gd_CODES_drafts => rfl)
    (case gs_CODES_drafts => rfl)
    (case gl_CODES_drafts_0 => k_is)
    (case gc_CODES_drafts_0 => rfl)
    (case gs_CODES_drafts_0 => rfl)
    (case gl_CODES_drafts_1 => k_is)
    (case gc_CODES_drafts_1 => rfl)
    (case gs_CODES_drafts_1 => rfl)
    (case gl_CODES_drafts_2 => k_is)
    (case gc_CODES_drafts_2 => rfl)
    (case gs_CODES_drafts_2 => rfl)
    (case g_LOW => k_is)
    (case g_HIGH => k_is)
    (case g_CODES_words => k_is)
    (case g_FIELDS => k_is)
    (case g_STEP => k_is)
    (case al_put_sums => k_is)
    (case a_BadSum => k_is)
    (case i_BadSum => k_is)
    (case ty_BadSum => k_is)
    (case l_BadSum => k_is)
    (case cc_BadSum => k_is)
    (case k_BadSum => k_is)
    (case cl_BadSum => k_is)
    (case ve_BadSum => decide +kernel)
    (case sa_BadSum => k_is)
    (case ex_BadSum => k_is)
    (case tc_BadSum => k_is)
    (case kc_BadSum => k_is)
    (case xa_BadSum => k_is)
    (case xg_BadSum => k_is)
    (case xh_BadSum => k_is)
    (case no_BadSum_thing => k_is)
    (case a_BadDraft => k_is)
    (case i_BadDraft => k_is)
    (case ty_BadDraft => k_is)
    (case l_BadDraft => k_is)
    (case cc_BadDraft => k_is)
    (case k_BadDraft => k_is)
    (case cl_BadDraft => k_is)
    (case ve_BadDraft => decide +kernel)
    (case sa_BadDraft => k_is)
    (case ex_BadDraft => k_is)
    (case tc_BadDraft => k_is)
    (case kc_BadDraft => k_is)
    (case xa_BadDraft => k_is)
    (case xg_BadDraft => k_is)
    (case xh_BadDraft => k_is)
    (case no_BadDraft_index => k_is)
    (case a_NoName => k_is)
    (case i_NoName => k_is)
    (case ty_NoName => k_is)
    (case l_NoName => k_is)
    (case cc_NoName => k_is)
    (case k_NoName => k_is)
    (case cl_NoName => k_is)
    (case ve_NoName => decide +kernel)
    (case sa_NoName => k_is)
    (case ex_NoName => k_is)
    (case tc_NoName => k_is)
    (case kc_NoName => k_is)
    (case xa_NoName => k_is)
    (case xg_NoName => k_is)
    (case xh_NoName => k_is)
    (case no_NoName_name => k_is)
    (case a_BadChoice => k_is)
    (case i_BadChoice => k_is)
    (case ty_BadChoice => k_is)
    (case l_BadChoice => k_is)
    (case cc_BadChoice => k_is)
    (case k_BadChoice => k_is)
    (case cl_BadChoice => k_is)
    (case ve_BadChoice => decide +kernel)
    (case sa_BadChoice => k_is)
    (case ex_BadChoice => k_is)
    (case tc_BadChoice => k_is)
    (case kc_BadChoice => k_is)
    (case xa_BadChoice => k_is)
    (case xg_BadChoice => k_is)
    (case xh_BadChoice => k_is)
    (case no_BadChoice_thing => k_is)
    (case a_TooLong => k_is)
    (case i_TooLong => k_is)
    (case ty_TooLong => k_is)
    (case l_TooLong => k_is)
    (case cc_TooLong => k_is)
    (case k_TooLong => k_is)
    (case cl_TooLong => k_is)
    (case ve_TooLong => decide +kernel)
    (case sa_TooLong => k_is)
    (case ex_TooLong => k_is)
    (case tc_TooLong => k_is)
    (case kc_TooLong => k_is)
    (case xa_TooLong => k_is)
    (case xg_TooLong => k_is)
    (case xh_TooLong => k_is)
    (case no_TooLong_index => k_is)
    (case a_BadField => k_is)
    (case i_BadField => k_is)
    (case ty_BadField => k_is)
    (case l_BadField => k_is)
    (case cc_BadField => k_is)
    (case k_BadField => k_is)
    (case cl_BadField => k_is)
    (case ve_BadField => decide +kernel)
    (case sa_BadField => k_is)
    (case ex_BadField => k_is)
    (case tc_BadField => k_is)
    (case kc_BadField => k_is)
    (case xa_BadField => k_is)
    (case xg_BadField => k_is)
    (case xh_BadField => k_is)
    (case no_BadField_name => k_is)
    (case m_BadSum_NoName => k_is)
    (case m_BadSum_BadChoice => k_is)
    (case m_BadSum_TooLong => k_is)
    (case m_BadDraft_NoName => k_is)
    (case m_BadDraft_BadChoice => k_is)
    (case m_BadDraft_TooLong => k_is)
    (case m_NoName_NoName => k_is)
    (case m_NoName_BadChoice => k_is)
    (case m_NoName_TooLong => k_is)
    (case m_BadChoice_NoName => k_is)
    (case m_BadChoice_BadChoice => k_is)
    (case m_BadChoice_TooLong => k_is)
    (case m_TooLong_NoName => k_is)
    (case m_TooLong_BadChoice => k_is)
    (case m_TooLong_TooLong => k_is)
    (case m_BadField_NoName => k_is)
    (case m_BadField_BadChoice => k_is)
    (case m_BadField_TooLong => k_is)
    (case aL => k_is); (case lL => k_is); (case cL => k_is); (case lC => k_is); (case n2 => first | rfl | kernel_rfl | decide +kernel); (case h2 => first | rfl | kernel_rfl)

