import PyProof.Rows.All
import Wide.All
import OpenK.AllK
import Wide.FinOn
import HandS.ForMost
import HandS.ForExc
import HandS.Lambda
import HandS.Walk
import HandS.NoneIn
import HandS.IsInst
import HandS.Conv
import HandS.Deep
import HandS.Style
import HandS.Strs
import HandS.ExcInit
import HandS.ExcField
import HandS.TryMany
import HandS.Defaults
import KE.SortKeyHeap
import HandS.SortKw
import HandS.DictEq
import HandS.ListEq
import HandS.EndTab
import HandS.HeadWalk
import KE.KNestM
import PySem.Challenge.RW_loadanywhere_k02_code_words
set_option Elab.async false
set_option linter.all false
set_option maxRecDepth 100000
set_option maxHeartbeats 4000000
/-! The data layer: a def's body as a plain function over data (D), its slots (Sl), its ends. -/
namespace DL
open PySem PySem.Spec PyProof.Rows L2

/-- plain data -/
inductive D where
  | non
  | bl (b : Bool)
  | int (i : Int)
  | str (s : Str)
  | tup (l : List D)
  | lst (l : List D)
  | dct (l : List (D × D))
  | scr (l : List Int)
  | cst (l : List D)

def keyD : Key → D
  | .inl i => .int i
  | .inr x => .str x

/-! ### a value that bears data, in the still part G of the heap -/
mutual
inductive Rp (K : PySem.W.Frag) (G : Hp) : V → D → Prop
  | non : Rp K G .non .non
  | bl (b : Bool) : Rp K G (.bl b) (.bl b)
  | int (i : Int) : Rp K G (.int i) (.int i)
  | str (s : Str) : Rp K G (.str s) (.str s)
  | tup {a : Addr} {xs : List V} {ds : List D} : G a = some (.tup xs) → RpL K G xs ds → Rp K G (.ref a) (.tup ds)
  | cst {a : Addr} {xs : List V} {ds : List D} : SqT K G a xs → RpL K G xs ds → Rp K G (.ref a) (.cst ds)
  | lst {a : Addr} {xs : List V} {ds : List D} : G a = some (.lst xs) → RpL K G xs ds → Rp K G (.ref a) (.lst ds)
  | scr {a : Addr} {ns : List Int} : SqL K G a (ns.map V.int) → Rp K G (.ref a) (.scr ns)
  | dK {a : Addr} {o : Obj} {kvs : List (Key × V)} {es : List (D × D)} : G a = some (.frz o (.dK kvs)) → RpK K G kvs es → Rp K G (.ref a) (.dct es)
  | dT {a : Addr} {o : Obj} {kvs : List (List Key × V)} {es : List (D × D)} : G a = some (.frz o (.dT kvs)) → RpT K G kvs es → Rp K G (.ref a) (.dct es)
inductive RpL (K : PySem.W.Frag) (G : Hp) : List V → List D → Prop
  | nil : RpL K G [] []
  | cons {v : V} {vs : List V} {d : D} {ds : List D} : Rp K G v d → RpL K G vs ds → RpL K G (v :: vs) (d :: ds)
inductive RpK (K : PySem.W.Frag) (G : Hp) : List (Key × V) → List (D × D) → Prop
  | nil : RpK K G [] []
  | cons {k : Key} {v : V} {r : List (Key × V)} {d : D} {es : List (D × D)} : Rp K G v d → RpK K G r es → RpK K G ((k, v) :: r) ((keyD k, d) :: es)
inductive RpT (K : PySem.W.Frag) (G : Hp) : List (List Key × V) → List (D × D) → Prop
  | nil : RpT K G [] []
  | cons {ks : List Key} {v : V} {r : List (List Key × V)} {d : D} {es : List (D × D)} : Rp K G v d → RpT K G r es → RpT K G ((ks, v) :: r) ((.tup (ks.map keyD), d) :: es)
end

theorem SqT_same {K : PySem.W.Frag} {H H' : Hp} {a : Addr} {xs : List V} (e : Same H H') (h : SqT K H a xs) : SqT K H' a xs := by
  rcases h with (h | ⟨o, h⟩) | h
  · exact .inl (.inl (e _ _ h))
  · exact .inl (.inr ⟨o, e _ _ h⟩)
  · exact .inr h

mutual
theorem Rp.mono {K : PySem.W.Frag} {G G' : Hp} (e : Same G G') : ∀ (d : D) (v : V), Rp K G v d → Rp K G' v d
  | .non, _, h => by cases h; exact .non
  | .bl b, _, h => by cases h; exact .bl b
  | .int i, _, h => by cases h; exact .int i
  | .str s, _, h => by cases h; exact .str s
  | .tup l, _, h => by
    cases h with
    | tup h1 h2 => exact .tup (e _ _ h1) (RpL.mono e l _ h2)
  | .cst l, _, h => by
    cases h with
    | cst h1 h2 => exact .cst (SqT_same e h1) (RpL.mono e l _ h2)
  | .lst l, _, h => by
    cases h with
    | lst h1 h2 => exact .lst (e _ _ h1) (RpL.mono e l _ h2)
  | .scr l, _, h => by
    cases h with
    | scr h1 => exact .scr (e.seq h1)
  | .dct l, _, h => by
    cases h with
    | dK h1 h2 => exact .dK (e _ _ h1) (RpK.mono e l _ h2)
    | dT h1 h2 => exact .dT (e _ _ h1) (RpT.mono e l _ h2)
theorem RpL.mono {K : PySem.W.Frag} {G G' : Hp} (e : Same G G') : ∀ (l : List D) (vs : List V), RpL K G vs l → RpL K G' vs l
  | [], _, h => by cases h; exact .nil
  | d :: l, _, h => by
    cases h with
    | cons h1 h2 => exact .cons (Rp.mono e d _ h1) (RpL.mono e l _ h2)
theorem RpK.mono {K : PySem.W.Frag} {G G' : Hp} (e : Same G G') : ∀ (l : List (D × D)) (vs : List (Key × V)), RpK K G vs l → RpK K G' vs l
  | [], _, h => by cases h; exact .nil
  | (k, d) :: l, _, h => by
    cases h with
    | cons h1 h2 => exact .cons (Rp.mono e d _ h1) (RpK.mono e l _ h2)
theorem RpT.mono {K : PySem.W.Frag} {G G' : Hp} (e : Same G G') : ∀ (l : List (D × D)) (vs : List (List Key × V)), RpT K G vs l → RpT K G' vs l
  | [], _, h => by cases h; exact .nil
  | (k, d) :: l, _, h => by
    cases h with
    | cons h1 h2 => exact .cons (Rp.mono e d _ h1) (RpT.mono e l _ h2)
end
theorem Rp.up {K : PySem.W.Frag} {G G' : Hp} {v : V} {d : D} (h : Rp K G v d) (e : Same G G') : Rp K G' v d := Rp.mono e d v h
theorem RpL.up {K : PySem.W.Frag} {G G' : Hp} {vs : List V} {l : List D} (h : RpL K G vs l) (e : Same G G') : RpL K G' vs l := RpL.mono e l vs h
theorem RpL.length {K : PySem.W.Frag} {G : Hp} : ∀ {vs : List V} {l : List D}, RpL K G vs l → vs.length = l.length
  | _, _, .nil => rfl
  | _, _, .cons _ h => congrArg (· + 1) h.length
theorem RpL.get {K : PySem.W.Frag} {G : Hp} : ∀ {vs : List V} {l : List D} {i : Nat} {d : D}, RpL K G vs l → l[i]? = some d → ∃ v, vs[i]? = some v ∧ Rp K G v d
  | _, _, _, _, .nil, e => by simp at e
  | _, _, 0, _, .cons h _, e => by simp at e; subst e; exact ⟨_, rfl, h⟩
  | _, _, i + 1, d, .cons _ h, e => by
    obtain ⟨v, e1, e2⟩ := RpL.get (i := i) (d := d) h (by simpa using e)
    exact ⟨v, by simpa using e1, e2⟩
theorem RpL.append {K : PySem.W.Frag} {G : Hp} : ∀ {vs ws : List V} {l m : List D}, RpL K G vs l → RpL K G ws m → RpL K G (vs ++ ws) (l ++ m)
  | _, _, _, _, .nil, h => h
  | _, _, _, _, .cons a b, h => .cons a (b.append h)
theorem RpL.set {K : PySem.W.Frag} {G : Hp} {v : V} {d : D} (r : Rp K G v d) : ∀ {vs : List V} {l : List D} (i : Nat), RpL K G vs l → RpL K G (vs.set i v) (l.set i d)
  | _, _, _, .nil => .nil
  | _, _, 0, .cons _ t => .cons r t
  | _, _, i + 1, .cons q t => .cons q (RpL.set r i t)

/-! ### slots -/
inductive Sl where
  | un
  | dat (d : D)
  | own (k : Bool) (l : List D)
  | ownD (t : Bool) (l : List (D × D))
abbrev DEnv := List Sl
def isOwn (r : DEnv) (i : Nat) : Prop := (∃ k l, r[i]? = some (Sl.own k l)) ∨ ∃ t l, r[i]? = some (Sl.ownD t l)
/-- a dict that a def holds alone: keys ints and texts, or tuples of them -/
def DictAt (K : PySem.W.Frag) (G H : Hp) (a : Addr) (t : Bool) (es : List (D × D)) : Prop :=
  (t = false ∧ ∃ kvs, H a = some (.dK kvs) ∧ RpK K G kvs es) ∨ (t = true ∧ ∃ kvs, H a = some (.dT kvs) ∧ RpT K G kvs es)
theorem DictAt.up {K : PySem.W.Frag} {G G' H H' : Hp} {a : Addr} {t : Bool} {es : List (D × D)} (h : DictAt K G H a t es) (e : Same G G') (q : H' a = H a) : DictAt K G' H' a t es := by
  rcases h with ⟨z, kvs, h1, h2⟩ | ⟨z, kvs, h1, h2⟩
  · exact .inl ⟨z, kvs, q.trans h1, RpK.mono e _ _ h2⟩
  · exact .inr ⟨z, kvs, q.trans h1, RpT.mono e _ _ h2⟩
theorem DictAt.ne {K : PySem.W.Frag} {G H : Hp} {a : Addr} {t : Bool} {es : List (D × D)} (h : DictAt K G H a t es) : H a ≠ none := by
  rcases h with ⟨_, _, q, _⟩ | ⟨_, _, q, _⟩ <;> rw [q] <;> simp

/-- what can be written to -/
def wr (o : Option HO) : Prop := match o with
  | some (.lst _) => True
  | some (.dK _) => True
  | some (.dT _) => True
  | _ => False
theorem wr_ne {o : Option HO} (h : wr o) : o ≠ none := fun z => by rw [z] at h; exact h
theorem wr_lst {H : Hp} {a : Addr} {xs : List V} (h : H a = some (.lst xs)) : wr (H a) := by rw [h]; trivial
theorem wr_same {H H' : Hp} (e : Same H H') {b : Addr} (h : wr (H b)) : wr (H' b) := by
  cases q : H b with
  | none => rw [q] at h; exact h.elim
  | some o => rw [e b o q]; rw [q] at h; exact h
theorem DictAt.wr {K : PySem.W.Frag} {G H : Hp} {a : Addr} {t : Bool} {es : List (D × D)} (h : DictAt K G H a t es) : DL.wr (H a) := by
  rcases h with ⟨_, _, q, _⟩ | ⟨_, _, q, _⟩ <;> rw [q] <;> trivial

/-- where a def runs: the written part, its classes' addresses, the still part and the heap at its entry, what it may write that stood there, tables of code objects -/
structure Fc where
  K : PySem.W.Frag
  cls : Str → Addr
  G0 : Hp
  H0 : Hp
  io : List Addr
  T : List (Addr × Str)
structure Hst (C : Fc) (G H : Hp) : Prop where
  sub : Same G H
  gnt : ∀ b ps, G b ≠ some (.tbl ps)
  g0 : Same C.G0 G
  dom : ∀ b, C.H0 b ≠ none → H b ≠ none
  domN : ∀ b, wr (C.H0 b) → wr (H b)
  keep : ∀ b o, C.H0 b = some o → b ∉ C.io → (∀ p ∈ C.T, b ≠ p.1) → H b = some o
  nofz : ∀ b, wr (C.H0 b) → C.G0 b = none → G b = none
  tabs : LamX.Tabs C.T H
structure Stt (C : Fc) (r : DEnv) (ad : Nat → Addr) (σ : L2.St) (G H : Hp) : Prop where
  hst : Hst C G H
  len : σ.length = r.length
  dat : ∀ (i : Nat) (d : D), r[i]? = some (Sl.dat d) → ∃ v, σ[i]? = some (some v) ∧ Rp C.K G v d
  own : ∀ (i : Nat) (k : Bool) (l : List D), r[i]? = some (Sl.own k l) → σ[i]? = some (some (V.ref (ad i))) ∧ (if k then ad i ∈ C.io else C.H0 (ad i) = none) ∧ G (ad i) = none ∧ ∃ xs, H (ad i) = some (.lst xs) ∧ RpL C.K G xs l
  ownD : ∀ (i : Nat) (t : Bool) (l : List (D × D)), r[i]? = some (Sl.ownD t l) → σ[i]? = some (some (V.ref (ad i))) ∧ C.H0 (ad i) = none ∧ G (ad i) = none ∧ DictAt C.K G H (ad i) t l
  inj : ∀ i j, isOwn r i → isOwn r j → ad i = ad j → i = j

/-- only new things are laid; those in G' are still -/
structure Grow (G H G' H' : Hp) : Prop where
  g : Same G G'
  h : Same H H'
  sub : Same G' H'
  gnt : ∀ b ps, G' b ≠ some (.tbl ps)
  nofz : ∀ b, wr (H b) → G b = none → G' b = none
theorem some_of_ne {H : Hp} {b : Addr} (n : H b ≠ none) : ∃ o, H b = some o := by
  cases q : H b with
  | none => exact absurd q n
  | some o => exact ⟨o, rfl⟩
theorem ne_of_some {H : Hp} {b : Addr} {o : HO} (n : H b = some o) : H b ≠ none := by rw [n]; simp
theorem Same.ne {H H' : Hp} (e : Same H H') {b : Addr} (n : H b ≠ none) : H' b ≠ none := by
  obtain ⟨o, h⟩ := some_of_ne n
  exact ne_of_some (e b o h)
theorem Grow.refl {C : Fc} {G H : Hp} (h : Hst C G H) : Grow G H G H := ⟨Same.refl _, Same.refl _, h.sub, h.gnt, fun _ _ z => z⟩
theorem Grow.trans {G H G1 H1 G2 H2 : Hp} (a : Grow G H G1 H1) (b : Grow G1 H1 G2 H2) : Grow G H G2 H2 :=
  ⟨a.g.trans b.g, a.h.trans b.h, b.sub, b.gnt, fun c n z => b.nofz c (wr_same a.h n) (a.nofz c n z)⟩
theorem Hst.grow {C : Fc} {G H G' H' : Hp} (s : Hst C G H) (w : Grow G H G' H') : Hst C G' H' :=
  ⟨w.sub, w.gnt, s.g0.trans w.g, fun b n => Same.ne w.h (s.dom b n), fun b n => wr_same w.h (s.domN b n), fun b o e n t => w.h _ _ (s.keep b o e n t), fun b n z => w.nofz b (s.domN b n) (s.nofz b n z), s.tabs.ext w.h⟩
theorem Stt.grow {C : Fc} {r : DEnv} {ad : Nat → Addr} {σ : L2.St} {G H G' H' : Hp} (s : Stt C r ad σ G H) (w : Grow G H G' H') : Stt C r ad σ G' H' := by
  refine ⟨s.hst.grow w, s.len, fun i d e => ?_, fun i k l e => ?_, fun i t l e => ?_, s.inj⟩
  · obtain ⟨v, h1, h2⟩ := s.dat i d e
    exact ⟨v, h1, h2.up w.g⟩
  · obtain ⟨h1, h2, h3, xs, h4, h5⟩ := s.own i k l e
    exact ⟨h1, h2, w.nofz _ (wr_lst h4) h3, xs, w.h _ _ h4, h5.up w.g⟩
  · obtain ⟨h1, h2, h3, h4⟩ := s.ownD i t l e
    have n : H (ad i) ≠ none := h4.ne
    refine ⟨h1, h2, w.nofz _ h4.wr h3, h4.up w.g ?_⟩
    obtain ⟨o, q⟩ := some_of_ne n
    rw [q, w.h _ _ q]
/-- a new still thing -/
theorem Grow.lay {G H : Hp} {p : Addr} {o : HO} (sub : Same G H) (gnt : ∀ b ps, G b ≠ some (.tbl ps)) (n : H p = none) (ho : ∀ ps, o ≠ .tbl ps) : Grow G H (upd G p o) (upd H p o) := by
  have gn : G p = none := sub.free n
  refine ⟨fun b u e => ?_, fun b u e => ?_, fun b u e => ?_, fun b ps e => ?_, fun b q z => ?_⟩
  · rw [upd_ne (ne_of_none e gn)]; exact e
  · rw [upd_ne (ne_of_none e n)]; exact e
  · by_cases h : b = p
    · subst h; rw [upd_same] at e ⊢; exact e
    · rw [upd_ne h] at e ⊢; exact sub b u e
  · by_cases h : b = p
    · subst h; rw [upd_same] at e; exact ho ps (Option.some.inj e)
    · rw [upd_ne h] at e; exact gnt b ps e
  · have h : b ≠ p := fun h => by rw [h, n] at q; exact q
    rw [upd_ne h]; exact z
/-- a new thing that is not still -/
theorem Grow.layH {G H : Hp} {p : Addr} {o : HO} (sub : Same G H) (gnt : ∀ b ps, G b ≠ some (.tbl ps)) (n : H p = none) : Grow G H G (upd H p o) := by
  refine ⟨Same.refl _, fun b u e => ?_, fun b u e => ?_, gnt, fun b q z => z⟩
  · rw [upd_ne (ne_of_none e n)]; exact e
  · have e' := sub b u e
    rw [upd_ne (ne_of_none e' n)]; exact e'

/-- what an expression leaves as it was: all but what the def holds alone, and tables -/
structure Kp (C : Fc) (r r' : DEnv) (ad : Nat → Addr) (G H G' H' : Hp) : Prop where
  g : Same G G'
  o : ∀ i, isOwn r' i → isOwn r i
  dom : ∀ b, H b ≠ none → H' b ≠ none
  domN : ∀ b, wr (H b) → wr (H' b)
  keep : ∀ b u, H b = some u → (∀ i, isOwn r i → b ≠ ad i) → (∀ p ∈ C.T, b ≠ p.1) → H' b = some u
  nofz : ∀ b, wr (H b) → G b = none → (∀ i, isOwn r i → b ≠ ad i) → G' b = none
theorem Kp.refl (C : Fc) (r : DEnv) (ad : Nat → Addr) (G H : Hp) : Kp C r r ad G H G H := ⟨Same.refl _, fun _ z => z, fun _ z => z, fun _ z => z, fun _ _ z _ _ => z, fun _ _ z _ => z⟩
theorem Kp.trans {C : Fc} {r r1 r2 : DEnv} {ad : Nat → Addr} {G H G1 H1 G2 H2 : Hp} (a : Kp C r r1 ad G H G1 H1) (b : Kp C r1 r2 ad G1 H1 G2 H2) : Kp C r r2 ad G H G2 H2 :=
  ⟨a.g.trans b.g, fun i z => a.o i (b.o i z), fun c z => b.dom c (a.dom c z), fun c z => b.domN c (a.domN c z), fun c u z n t => b.keep c u (a.keep c u z n t) (fun i q => n i (a.o i q)) t,
    fun c z y n => b.nofz c (a.domN c z) (a.nofz c z y n) fun i q => n i (a.o i q)⟩
theorem Kp.grow {C : Fc} {r : DEnv} {ad : Nat → Addr} {G H G' H' : Hp} (w : Grow G H G' H') : Kp C r r ad G H G' H' :=
  ⟨w.g, fun _ z => z, fun _ z => Same.ne w.h z, fun _ z => wr_same w.h z, fun b u z _ _ => w.h b u z, fun b z y _ => w.nofz b z y⟩

/-! ### what an expression, a row of arguments, a statement comes to -/
inductive ER where
  | ok (d : D) (r : DEnv)
  | exc (c : Str) (fs : List (Str × D))
  | bad
inductive AR where
  | ok (ds : List D) (r : DEnv)
  | exc (c : Str) (fs : List (Str × D))
  | bad
inductive SR where
  | nx (r : DEnv)
  | bk (r : DEnv)
  | ct (r : DEnv)
  | rt (d : D) (r : DEnv)
  | rtO (l : List D) (r : DEnv)
  | exc (c : Str) (fs : List (Str × D))
  | bad
abbrev ME := DEnv → ER
abbrev MA := DEnv → AR
abbrev MS := DEnv → SR

/-- an exception's own fields -/
inductive RpF (K : PySem.W.Frag) (G : Hp) : List (Str × V) → List (Str × D) → Prop
  | nil : RpF K G [] []
  | cons {x : Str} {v : V} {d : D} {vs : List (Str × V)} {ds : List (Str × D)} : Rp K G v d → RpF K G vs ds → RpF K G ((x, v) :: vs) ((x, d) :: ds)
def kX (C : Fc) (E : XK) (c : Str) (fs : List (Str × D)) : Prop :=
  ∀ dd fv G' H', Hst C G' H' → H' dd = some (.xd fv) → RpF C.K G' fv fs → E (.ref (C.cls c)) (some dd) H'
def kE (C : Fc) (E : XK) (x : ER) (r : DEnv) (ad : Nat → Addr) (σ : L2.St) (G H : Hp) (Q : VK) : Prop :=
  match x with
  | .ok d r' => ∀ v G' H', Stt C r' ad σ G' H' → Kp C r r' ad G H G' H' → Rp C.K G' v d → Q v H'
  | .exc c fs => kX C E c fs
  | .bad => False
def tE (C : Fc) (E : XK) (m : ME) : TE := fun σ H Q => ∃ r ad G, Stt C r ad σ G H ∧ kE C E (m r) r ad σ G H Q
def kT (C : Fc) (E : XK) (x : ER) (r : DEnv) (ad : Nat → Addr) (σ : L2.St) (G H : Hp) (Q : Bool → Hp → Prop) : Prop :=
  match x with
  | .ok d r' => ∃ b, d = .bl b ∧ ∀ G' H', Stt C r' ad σ G' H' → Kp C r r' ad G H G' H' → Q b H'
  | .exc c fs => kX C E c fs
  | .bad => False
def tT (C : Fc) (E : XK) (m : ME) : TT := fun σ H Q => ∃ r ad G, Stt C r ad σ G H ∧ kT C E (m r) r ad σ G H Q
def kA (C : Fc) (E : XK) (x : AR) (r : DEnv) (ad : Nat → Addr) (σ : L2.St) (G H : Hp) (Q : List V → Hp → Prop) : Prop :=
  match x with
  | .ok ds r' => ∀ vs G' H', Stt C r' ad σ G' H' → Kp C r r' ad G H G' H' → RpL C.K G' vs ds → Q vs H'
  | .exc c fs => kX C E c fs
  | .bad => False
def tA (C : Fc) (E : XK) (m : MA) : TA := fun σ H Q => ∃ r ad G, Stt C r ad σ G H ∧ kA C E (m r) r ad σ G H Q
def kS (C : Fc) (E : XK) (x : SR) (G : Hp) (Dn : Ends) : Prop :=
  match x with
  | .nx r' => ∀ ad' σ' G' H', Stt C r' ad' σ' G' H' → Same G G' → Dn.nx σ' H'
  | .bk r' => ∀ ad' σ' G' H', Stt C r' ad' σ' G' H' → Same G G' → Dn.bk σ' H'
  | .ct r' => ∀ ad' σ' G' H', Stt C r' ad' σ' G' H' → Same G G' → Dn.ct σ' H'
  | .rt d r' => ∀ v ad' σ' G' H', Stt C r' ad' σ' G' H' → Rp C.K G' v d → Dn.rt v H'
  | .rtO l r' => ∀ p xs ad' σ' G' H', Stt C r' ad' σ' G' H' → (∀ i, isOwn r' i → ad' i ≠ p) → C.H0 p = none → G' p = none → H' p = some (.lst xs) → RpL C.K G' xs l → Dn.rt (.ref p) H'
  | .exc c fs => kX C E c fs
  | .bad => False
def tS (C : Fc) (E : XK) (m : MS) : TS := fun Dn σ H => ∃ r ad G, Stt C r ad σ G H ∧ kS C E (m r) G Dn

/-! ### consequence -/
section
variable {X : Cx}
theorem PE.imp {e : Expr} {t t' : TE} (h : PE X e t) (i : ∀ σ H Q, t' σ H Q → t σ H Q) : PE X e t' := ⟨fun pins s σ H Q I q => h.run pins s σ H Q I (i _ _ _ q)⟩
theorem PT.imp {e : Expr} {t t' : TT} (h : PT X e t) (i : ∀ σ H Q, t' σ H Q → t σ H Q) : PT X e t' := ⟨fun pins s σ H Q I q => h.run pins s σ H Q I (i _ _ _ q)⟩
theorem PW.imp {e : Expr} {t t' : TT} (h : PW X e t) (i : ∀ σ H Q, t' σ H Q → t σ H Q) : PW X e t' := ⟨fun wh pins s σ H Q I q => h.run wh pins s σ H Q I (i _ _ _ q)⟩
theorem PA.imp {es : List Expr} {t t' : TA} (h : PA X es t) (i : ∀ σ H Q, t' σ H Q → t σ H Q) : PA X es t' := ⟨fun pos pins s σ H Q I q => h.run pos pins s σ H Q I (i _ _ _ q)⟩
theorem PS.imp {e : Stmt} {t t' : TS} (h : PS X e t) (i : ∀ Dn σ H, t' Dn σ H → t Dn σ H) : PS X e t' := ⟨fun pins s σ H Q I q => h.run pins s σ H Q I (i _ _ _ q)⟩
theorem PSs.imp {e : List Stmt} {t t' : TS} (h : PSs X e t) (i : ∀ Dn σ H, t' Dn σ H → t Dn σ H) : PSs X e t' := ⟨fun pins s σ H Q I q => h.run pins s σ H Q I (i _ _ _ q)⟩
end

/-! ### small parts -/
def mC (d : D) : ME := fun r => .ok d r
def mV (i : Nat) : ME := fun r => match r[i]? with
  | some (.dat d) => .ok d r
  | _ => .bad
def bindE (x : ER) (f : D → DEnv → ER) : ER := match x with
  | .ok d r => f d r
  | .exc c fs => .exc c fs
  | .bad => .bad
def optE (o : Option D) (r : DEnv) : ER := match o with
  | some d => .ok d r
  | none => .bad
def mOp (g : D → D → Option D) (a b : ME) : ME := fun r => bindE (a r) fun x r1 => bindE (b r1) fun y r2 => optE (g x y) r2
def mUn (g : D → Option D) (a : ME) : ME := fun r => bindE (a r) fun x r1 => optE (g x) r1
def aNil : MA := fun r => .ok [] r
def aCons (a : ME) (b : MA) : MA := fun r => match a r with
  | .ok x r1 => (match b r1 with
    | .ok l r2 => .ok (x :: l) r2
    | .exc c fs => .exc c fs
    | .bad => .bad)
  | .exc c fs => .exc c fs
  | .bad => .bad
def mAgs (g : List D → Option D) (a : MA) : ME := fun r => match a r with
  | .ok l r1 => optE (g l) r1
  | .exc c fs => .exc c fs
  | .bad => .bad
def short (l : List D) : Bool := decide (l.length ≤ 16777216)
def gTupD (l : List D) : Option D := if short l then some (.tup l) else none
def gLstD (l : List D) : Option D := if short l then some (.lst l) else none

section
variable {X : Cx} {C : Fc} {E : XK}
theorem e_c {e : Expr} {v : V} {d : D} (h : PE X e (tC v)) (hd : ∀ G, Rp C.K G v d) : PE X e (tE C E (mC d)) :=
  PE.imp h fun σ H Q ⟨r, ad, G, s, k⟩ => k v G H s (Kp.refl _ _ _ _ _) (hd G)
theorem e_int {i j pos} : PE X (.Constant (.int i) j pos) (tE C E (mC (.int i))) := e_c pe_int fun _ => .int i
theorem e_bl {i j pos} : PE X (.Constant (.bool i) j pos) (tE C E (mC (.bl i))) := e_c pe_bl fun _ => .bl i
theorem e_non {j pos} : PE X (.Constant .none j pos) (tE C E (mC .non)) := e_c pe_non fun _ => .non
theorem e_str {i j pos} : PE X (.Constant (.str i) j pos) (tE C E (mC (.str i))) := e_c pe_str fun _ => .str i
theorem e_v (i : Nat) {x : Str} {pos : Pos} (hN : X.N[i]? = some x := by rfl) (hv : Vis X.env.scope x := by first | exact Or.inl rfl | exact Or.inr (Or.inl rfl) | exact Or.inr (Or.inr rfl)) (hd : (x == ("__debug__" : Str)) = false := by decide)
    (hcd : (x == ("__classdict__" : Str)) = false := by decide) : PE X (.Name x pos) (tE C E (mV i)) :=
  PE.imp (pe_var hN hv hd hcd) fun σ H Q ⟨r, ad, G, s, k⟩ => by
    unfold mV at k
    split at k
    · rename_i d e
      obtain ⟨v, h1, h2⟩ := s.dat i d e
      exact ⟨v, h1, k v G H s (Kp.refl _ _ _ _ _) h2⟩
    · exact k.elim
theorem a_nil : PA X [] (tA C E aNil) := PA.imp pa_nil fun σ H Q ⟨r, ad, G, s, k⟩ => k [] G H s (Kp.refl _ _ _ _ _) .nil
theorem a_cons {e : Expr} {es : List Expr} {a : ME} {b : MA} (ha : PE X e (tE C E a)) (hb : PA X es (tA C E b)) (hs : starEach (e :: es) X.env = (false, eval e X.env) :: starEach es X.env := by rfl) : PA X (e :: es) (tA C E (aCons a b)) := by
  refine PA.imp (pa_cons ha hb hs) fun σ H Q ⟨r, ad, G, s, k⟩ => ⟨r, ad, G, s, ?_⟩
  unfold aCons at k
  cases ea : a r with
  | bad => rw [ea] at k; exact k.elim
  | exc c fs => rw [ea] at k; exact k
  | ok x r1 =>
    rw [ea] at k
    intro v G1 H1 s1 g1 p1
    refine ⟨r1, ad, G1, s1, ?_⟩
    cases eb : b r1 with
    | bad => simp only [eb] at k; exact k.elim
    | exc c fs => simp only [eb] at k; exact k
    | ok l r2 =>
      simp only [eb] at k
      intro vs G2 H2 s2 g2 p2
      exact k (v :: vs) G2 H2 s2 (g1.trans g2) (.cons (p1.up g2.g) p2)
/-- an operator by values, over data -/
def OpD (C : Fc) (q : R2) (g : D → D → Option D) : Prop := ∀ G H v1 v2 d1 d2 d (Q : VK), Hst C G H → Rp C.K G v1 d1 → Rp C.K G v2 d2 → g d1 d2 = some d →
  (∀ v G' H', Grow G H G' H' → Rp C.K G' v d → Q v H') → q v1 v2 H Q
def UnD (C : Fc) (q : V → Hp → VK → Prop) (g : D → Option D) : Prop := ∀ G H v1 d1 d (Q : VK), Hst C G H → Rp C.K G v1 d1 → g d1 = some d →
  (∀ v G' H', Grow G H G' H' → Rp C.K G' v d → Q v H') → q v1 H Q
def CallD (C : Fc) (q : List V → Hp → VK → Prop) (g : List D → Option D) : Prop := ∀ G H vs ds d (Q : VK), Hst C G H → RpL C.K G vs ds → g ds = some d →
  (∀ v G' H', Grow G H G' H' → Rp C.K G' v d → Q v H') → q vs H Q
theorem tE_op {q : R2} {g : D → D → Option D} {a b : ME} (hg : OpD C q g) : ∀ σ H Q, tE C E (mOp g a b) σ H Q → tOp q (tE C E a) (tE C E b) σ H Q := by
  intro σ H Q ⟨r, ad, G, s, k⟩
  refine ⟨r, ad, G, s, ?_⟩
  unfold mOp at k
  cases ea : a r with
  | bad => rw [ea] at k; exact k.elim
  | exc c fs => rw [ea] at k; exact k
  | ok x r1 =>
    rw [ea] at k
    intro v G1 H1 s1 g1 p1
    refine ⟨r1, ad, G1, s1, ?_⟩
    cases eb : b r1 with
    | bad => simp only [bindE, eb] at k; exact k.elim
    | exc c fs => simp only [bindE, eb] at k; exact k
    | ok y r2 =>
      simp only [bindE, eb] at k
      intro u G2 H2 s2 g2 p2
      cases eg : g x y with
      | none => rw [eg] at k; exact k.elim
      | some d =>
        rw [eg] at k
        exact hg G2 H2 v u x y d Q s2.hst (p1.up g2.g) p2 eg fun w G3 H3 gr p3 => k w G3 H3 (s2.grow gr) ((g1.trans g2).trans (Kp.grow gr)) p3
theorem e_op {op : Operator} {q : R2} {g : D → D → Option D} {a b : Expr} {ma mb : ME} {pos : Pos} (ho : OpR X (binaryOp op) q) (hg : OpD C q g) (ha : PE X a (tE C E ma)) (hb : PE X b (tE C E mb)) : PE X (.BinOp a op b pos) (tE C E (mOp g ma mb)) :=
  PE.imp (pe_op ho ha hb) (tE_op hg)
theorem e_cmp {op : CmpOp} {q : R2} {g : D → D → Option D} {a b : Expr} {ma mb : ME} {pos : Pos} (ho : OpR X (compareOp op) q) (hg : OpD C q g) (ha : PE X a (tE C E ma)) (hb : PE X b (tE C E mb)) (hm : behindInMarks op b = false := by first | exact nomark _ | rfl) :
    PE X (.Compare a [op] [b] pos) (tE C E (mOp g ma mb)) := PE.imp (pe_cmpR ho ha hb hm) (tE_op hg)
theorem e_ix {q : R2} {g : D → D → Option D} {a b : Expr} {ma mb : ME} {pos : Pos} (ho : IxR X q) (hg : OpD C q g) (ha : PE X a (tE C E ma)) (hb : PE X b (tE C E mb)) (hs : PlainIx b := by exact fun _ _ => rfl) :
    PE X (.Subscript a b pos) (tE C E (mOp g ma mb)) := PE.imp (pe_ix ho ha hb hs) (tE_op hg)
theorem e_un {op : UnaryOp} {q : V → Hp → VK → Prop} {g : D → Option D} {a : Expr} {ma : ME} {pos : Pos} (ho : UnR X (unaryOp op) q) (hg : UnD C q g) (ha : PE X a (tE C E ma)) : PE X (.UnaryOp op a pos) (tE C E (mUn g ma)) := by
  refine PE.imp (pe_un ho ha) fun σ H Q ⟨r, ad, G, s, k⟩ => ⟨r, ad, G, s, ?_⟩
  unfold mUn at k
  cases ea : ma r with
  | bad => rw [ea] at k; exact k.elim
  | exc c fs => rw [ea] at k; exact k
  | ok x r1 =>
    simp only [bindE, ea] at k
    intro v G1 H1 s1 g1 p1
    cases eg : g x with
    | none => rw [eg] at k; exact k.elim
    | some d =>
      rw [eg] at k
      exact hg G1 H1 v x d Q s1.hst p1 eg fun w G3 H3 gr p3 => k w G3 H3 (s1.grow gr) (g1.trans (Kp.grow gr)) p3
theorem tA_then {q : List V → Hp → VK → Prop} {g : List D → Option D} {a : MA} (hg : CallD C q g) : ∀ σ H Q, tE C E (mAgs g a) σ H Q → tA C E a σ H (fun vs H1 => q vs H1 Q) := by
  intro σ H Q ⟨r, ad, G, s, k⟩
  refine ⟨r, ad, G, s, ?_⟩
  unfold mAgs at k
  cases ea : a r with
  | bad => rw [ea] at k; exact k.elim
  | exc c fs => rw [ea] at k; exact k
  | ok l r1 =>
    simp only [ea] at k
    intro vs G1 H1 s1 g1 p1
    cases eg : g l with
    | none => rw [eg] at k; exact k.elim
    | some d =>
      rw [eg] at k
      exact hg G1 H1 vs l d Q s1.hst p1 eg fun w G3 H3 gr p3 => k w G3 H3 (s1.grow gr) (g1.trans (Kp.grow gr)) p3
theorem tup_D : CallD C (fun xs H Q => xs.length ≤ sizeLine ∧ ∀ p, H p = none → Q (.ref p) (upd H p (.tup xs))) gTupD := by
  intro G H vs ds d Q s h e k
  unfold gTupD at e
  split at e
  · rename_i hs
    cases e
    refine ⟨by rw [h.length, sizeLine_eq]; exact of_decide_eq_true hs, fun p hp => ?_⟩
    have gr : Grow G H (upd G p (.tup vs)) (upd H p (.tup vs)) := Grow.lay s.sub s.gnt hp (fun _ z => nomatch z)
    exact k _ _ _ gr (.tup upd_same (h.up gr.g))
  · cases e
theorem lst_D : CallD C (fun xs H Q => xs.length ≤ sizeLine ∧ ∀ p, H p = none → Q (.ref p) (upd H p (.lst xs))) gLstD := by
  intro G H vs ds d Q s h e k
  unfold gLstD at e
  split at e
  · rename_i hs
    cases e
    refine ⟨by rw [h.length, sizeLine_eq]; exact of_decide_eq_true hs, fun p hp => ?_⟩
    have gr : Grow G H (upd G p (.lst vs)) (upd H p (.lst vs)) := Grow.lay s.sub s.gnt hp (fun _ z => nomatch z)
    exact k _ _ _ gr (.lst upd_same (h.up gr.g))
  · cases e
theorem e_tup {es : List Expr} {a : MA} {x1} {pos : Pos} (ha : PA X es (tA C E a)) : PE X (.Tuple es x1 pos) (tE C E (mAgs gTupD a)) := PE.imp (pe_tup ha) fun σ H Q h => tA_then tup_D σ H Q h
theorem e_lst {es : List Expr} {a : MA} {pos : Pos} (ha : PA X es (tA C E a)) : PE X (.List es pos) (tE C E (mAgs gLstD a)) := PE.imp (pe_lst ha) fun σ H Q h => tA_then lst_D σ H Q h
/-- a built-in by its name -/
theorem e_b {q : List V → Hp → VK → Prop} {g : List D → Option D} {id : String} {x : Str} {p pos : Pos} {e : Expr} {es : List Expr} {a : MA} (hc : CallR X (.builtin id) q) (hg : CallD C q g) (ha : PA X (e :: es) (tA C E a)) (hm : X.mg x = none) (hv : bootBuiltins x = some (.builtin id) := by decide +kernel) (hgl : Gl X x := by rfl)
    (hn : x ≠ "__name__" := by decide) (hdb : (x == ("__debug__" : Str)) = false := by decide) (he : starEach (e :: es) X.env = (false, eval e X.env) :: starEach es X.env := by rfl) (hpl : (backTo pos (starEach es X.env)).any (·.1) = false := by rfl) :
    PE X (.Call (.Name x p) (e :: es) [] pos) (tE C E (mAgs g a)) := PE.imp (pe_callB hc hgl hm hv ha hn hdb he hpl) fun σ H Q h => tA_then hg σ H Q h
theorem e_ty {q : List V → Hp → VK → Prop} {g : List D → Option D} {id : String} {x : Str} {p pos : Pos} {e : Expr} {es : List Expr} {a : MA} (hc : CallR X (.type id) q) (hg : CallD C q g) (ha : PA X (e :: es) (tA C E a)) (hm : X.mg x = none) (hv : bootBuiltins x = some (.type id) := by decide +kernel) (hgl : Gl X x := by rfl)
    (hn : x ≠ "__name__" := by decide) (hdb : (x == ("__debug__" : Str)) = false := by decide) (he : starEach (e :: es) X.env = (false, eval e X.env) :: starEach es X.env := by rfl) (hpl : (backTo pos (starEach es X.env)).any (·.1) = false := by rfl) :
    PE X (.Call (.Name x p) (e :: es) [] pos) (tE C E (mAgs g a)) := PE.imp (pe_callTy hc hgl hm hv ha hn hdb he hpl) fun σ H Q h => tA_then hg σ H Q h
end
end DL

/-! Operators, comparisons, tests, statements over data. -/
namespace DL
open PySem PySem.Spec PyProof.Rows L2

/-! ### ints -/
def gI2 (g : Int → Int → Option D) : D → D → Option D
  | .int i, .int j => g i j
  | _, _ => none
theorem rp_int {K : PySem.W.Frag} {G : Hp} {v : V} {i : Int} (h : Rp K G v (.int i)) : v = .int i := by cases h; rfl
theorem rp_str {K : PySem.W.Frag} {G : Hp} {v : V} {i : Str} (h : Rp K G v (.str i)) : v = .str i := by cases h; rfl
theorem rp_bl {K : PySem.W.Frag} {G : Hp} {v : V} {i : Bool} (h : Rp K G v (.bl i)) : v = .bl i := by cases h; rfl
section
variable {C : Fc}
theorem gI2_some {g : Int → Int → Option D} {x y d : D} (h : gI2 g x y = some d) : ∃ i j, x = .int i ∧ y = .int j ∧ g i j = some d := by
  cases x <;> cases y <;> first | exact ⟨_, _, rfl, rfl, h⟩ | cases h
theorem opD_rI0 {f : Int → Int → V} {g : Int → Int → Option D} (hf : ∀ i j d, g i j = some d → ∀ G, Rp C.K G (f i j) d) : OpD C (rI0 f) (gI2 g) := by
  intro G H v1 v2 d1 d2 d Q s h1 h2 e k
  obtain ⟨i, j, rfl, rfl, e⟩ := gI2_some e
  exact ⟨i, j, rp_int h1, rp_int h2, k _ G H (Grow.refl s) (hf i j d e G)⟩
theorem opD_rI {c : Int → Int → Prop} {f : Int → Int → V} {g : Int → Int → Option D} (hf : ∀ i j d, g i j = some d → c i j ∧ ∀ G, Rp C.K G (f i j) d) : OpD C (rI c f) (gI2 g) := by
  intro G H v1 v2 d1 d2 d Q s h1 h2 e k
  obtain ⟨i, j, rfl, rfl, e⟩ := gI2_some e
  exact ⟨i, j, rp_int h1, rp_int h2, (hf i j d e).1, k _ G H (Grow.refl s) ((hf i j d e).2 G)⟩
def iAdd : D → D → Option D := gI2 fun i j => some (.int (i + j))
def iSub : D → D → Option D := gI2 fun i j => some (.int (i - j))
def iMul : D → D → Option D := gI2 fun i j => if (-(2 ^ 64) < i ∧ i < 2 ^ 64) ∨ (-(2 ^ 64) < j ∧ j < 2 ^ 64) then some (.int (i * j)) else none
def iDiv : D → D → Option D := gI2 fun i j => if 0 < j ∧ j < 1073741824 then some (.int (i / j)) else none
def iMod : D → D → Option D := gI2 fun i j => if 0 < j then some (.int (i % j)) else none
def iPow : D → D → Option D := gI2 fun i j => if 0 ≤ j ∧ j ≤ 1000000 ∧ i.natAbs < 2 ^ 64 then some (.int (i ^ j.toNat)) else none
def iLt : D → D → Option D := gI2 fun i j => some (.bl (decide (i < j)))
def iLe : D → D → Option D := gI2 fun i j => some (.bl (decide (i ≤ j)))
def iGt : D → D → Option D := gI2 fun i j => some (.bl (decide (j < i)))
def iGe : D → D → Option D := gI2 fun i j => some (.bl (decide (j ≤ i)))
theorem d_add : OpD C (rI0 fun i j => .int (i + j)) iAdd := opD_rI0 fun i j d e G => by cases e; exact .int _
theorem d_sub : OpD C (rI0 fun i j => .int (i - j)) iSub := opD_rI0 fun i j d e G => by cases e; exact .int _
theorem d_mul : OpD C (rI CMul fun i j => .int (i * j)) iMul := opD_rI fun i j d e => by
  split at e
  · rename_i h; cases e; exact ⟨h, fun G => .int _⟩
  · cases e
theorem d_div : OpD C (rI CDiv fun i j => .int (i / j)) iDiv := opD_rI fun i j d e => by
  split at e
  · rename_i h; cases e; exact ⟨h, fun G => .int _⟩
  · cases e
theorem d_mod : OpD C (rI (fun _ j => 0 < j) fun i j => .int (i % j)) iMod := opD_rI fun i j d e => by
  split at e
  · rename_i h; cases e; exact ⟨h, fun G => .int _⟩
  · cases e
theorem d_pow : OpD C (rI CPow fun i j => .int (i ^ j.toNat)) iPow := opD_rI fun i j d e => by
  split at e
  · rename_i h; cases e; exact ⟨h, fun G => .int _⟩
  · cases e
theorem d_lt : OpD C (rI0 fun i j => .bl (decide (i < j))) iLt := opD_rI0 fun i j d e G => by cases e; exact .bl _
theorem d_le : OpD C (rI0 fun i j => .bl (decide (i ≤ j))) iLe := opD_rI0 fun i j d e G => by cases e; exact .bl _
theorem d_gt : OpD C (rI0 fun i j => .bl (decide (j < i))) iGt := opD_rI0 fun i j d e G => by cases e; exact .bl _
theorem d_ge : OpD C (rI0 fun i j => .bl (decide (j ≤ i))) iGe := opD_rI0 fun i j d e G => by cases e; exact .bl _
def iNeg : D → Option D
  | .int i => some (.int (-i))
  | _ => none
theorem d_neg : UnD C (rU fun i => .int (-i)) iNeg := by
  intro G H v d1 d Q s h e k
  cases d1 <;> first | (cases e; done) | skip
  rename_i i
  cases e
  exact ⟨i, rp_int h, k _ G H (Grow.refl s) (.int _)⟩
/-- is None -/
def gIsN : D → D → Option D
  | .non, .non => some (.bl true)
  | _, .non => some (.bl false)
  | _, _ => none
def gNotN : D → D → Option D
  | .non, .non => some (.bl false)
  | _, .non => some (.bl true)
  | _, _ => none
theorem rp_non {K : PySem.W.Frag} {G : Hp} {v : V} (h : Rp K G v .non) : v = .non := by cases h; rfl
theorem rp_isnon {K : PySem.W.Frag} {G : Hp} {v : V} {d : D} (h : Rp K G v d) (n : v = .non) : d = .non := by subst n; cases h; rfl
theorem d_isN : OpD C (fun x y H Q => y = .non ∧ Q (.bl (decide (x = .non))) H) gIsN := by
  intro G H v1 v2 d1 d2 d Q s h1 h2 e k
  cases d2 <;> first | (cases d1 <;> cases e; done) | skip
  refine ⟨rp_non h2, k _ G H (Grow.refl s) ?_⟩
  cases d1 <;> cases e
  · rw [rp_non h1]; exact .bl _
  all_goals
    rw [decide_eq_false (fun n => by have := rp_isnon h1 n; cases this)]
    exact .bl _
theorem d_notN : OpD C (fun x y H Q => y = .non ∧ Q (.bl (!decide (x = .non))) H) gNotN := by
  intro G H v1 v2 d1 d2 d Q s h1 h2 e k
  cases d2 <;> first | (cases d1 <;> cases e; done) | skip
  refine ⟨rp_non h2, k _ G H (Grow.refl s) ?_⟩
  cases d1 <;> cases e
  · rw [rp_non h1]; exact .bl _
  all_goals
    rw [decide_eq_false (fun n => by have := rp_isnon h1 n; cases this)]
    exact .bl _
end

/-! ### an item -/
def itemD (l : List D) (i : Int) : Option D := atI l i
theorem atI_rp {K : PySem.W.Frag} {G : Hp} {xs : List V} {l : List D} {i : Int} {d : D} (h : RpL K G xs l) (e : atI l i = some d) : ∃ v, atI xs i = some v ∧ Rp K G v d := by
  unfold atI at e ⊢
  rw [h.length]
  cases q : ixN l.length i with
  | none => rw [q] at e; cases e
  | some j =>
    rw [q] at e
    exact h.get e
def gIx : D → D → Option D
  | .lst l, .int i => atI l i
  | .tup l, .int i => atI l i
  | .scr l, .int i => (atI l i).map .int
  | .cst l, .int i => atI l i
  | _, _ => none
section
variable {C : Fc}
theorem d_ix : OpD C (rIx C.K) gIx := by
  intro G H v1 v2 d1 d2 d Q s h1 h2 e k
  cases d1 <;> cases d2 <;> first | (cases e; done) | skip
  · rename_i l i
    cases h1 with
    | tup hs hl =>
      obtain ⟨v, e1, e2⟩ := atI_rp hl e
      exact .inr (.inl ⟨_, _, i, v, rfl, rp_int h2, SqT.of (s.sub _ _ hs), e1, k v G H (Grow.refl s) e2⟩)
  · rename_i l i
    cases h1 with
    | lst hs hl =>
      obtain ⟨v, e1, e2⟩ := atI_rp hl e
      exact .inl ⟨_, _, i, v, rfl, rp_int h2, SqL.of (s.sub _ _ hs), e1, k v G H (Grow.refl s) e2⟩
  · rename_i l i
    cases h1 with
    | scr hs =>
      unfold gIx at e
      simp only at e
      cases q : atI l i with
      | none => rw [q] at e; cases e
      | some n =>
        rw [q] at e
        cases e
        refine .inl ⟨_, _, i, .int n, rfl, rp_int h2, s.sub.seq hs, ?_, k _ G H (Grow.refl s) (.int n)⟩
        unfold atI at q ⊢
        rw [List.length_map]
        cases z : ixN l.length i with
        | none => rw [z] at q; cases q
        | some j =>
          rw [z] at q
          simp only [Option.bind_some] at q ⊢
          rw [List.getElem?_map, q]
          rfl
  · rename_i l i
    cases h1 with
    | cst hs hl =>
      obtain ⟨v, e1, e2⟩ := atI_rp hl e
      exact .inr (.inl ⟨_, _, i, v, rfl, rp_int h2, SqT_same s.sub hs, e1, k v G H (Grow.refl s) e2⟩)
end

/-! ### tests and truth values -/
def mAnd (a b : ME) : ME := fun r => bindE (a r) fun x r1 => match x with
  | .bl true => b r1
  | .bl false => .ok (.bl false) r1
  | _ => .bad
def mOr (a b : ME) : ME := fun r => bindE (a r) fun x r1 => match x with
  | .bl true => .ok (.bl true) r1
  | .bl false => b r1
  | _ => .bad
def gNot : D → Option D
  | .bl b => some (.bl (!b))
  | _ => none
def mNot (a : ME) : ME := mUn gNot a
def mIf (t a b : ME) : ME := fun r => bindE (t r) fun x r1 => match x with
  | .bl true => a r1
  | .bl false => b r1
  | _ => .bad
section
variable {X : Cx} {C : Fc} {E : XK} {a b c : Expr} {ma mb mc : ME} {pos : Pos} {rest : List Expr}
/-- a value that is a truth, as a test -/
theorem tT_of {m : ME} {σ : L2.St} {H : Hp} {Q : Bool → Hp → Prop} (h : tT C E m σ H Q) : tE C E m σ H fun x H1 => ∃ k, x = .bl k ∧ Q k H1 := by
  obtain ⟨r, ad, G, s, k⟩ := h
  refine ⟨r, ad, G, s, ?_⟩
  unfold kT at k
  unfold kE
  cases e : m r with
  | bad => rw [e] at k; exact k
  | exc c fs => rw [e] at k; exact k
  | ok d r1 =>
    rw [e] at k
    obtain ⟨b, rfl, k⟩ := k
    intro v G1 H1 s1 g1 p1
    exact ⟨b, rp_bl p1, k G1 H1 s1 g1⟩
theorem t_val {e : Expr} {m : ME} (h : PE X e (tE C E m)) (he : ∀ whole, isTrue e X.env whole = (do let v ← whole; standAt e.pos; holding [v] (truthy v)) := by intro _; rfl) : PT X e (tT C E m) :=
  PT.imp (pt_val h he) fun σ H Q q => tT_of q
theorem t_cmp {op : CmpOp} {q : R2} {g : D → D → Option D} (ho : OpR X (compareOp op) q) (hg : OpD C q g) (ha : PE X a (tE C E ma)) (hb : PE X b (tE C E mb)) (hm : behindInMarks op b = false := by first | exact nomark _ | rfl) :
    PT X (.Compare a [op] [b] pos) (tT C E (mOp g ma mb)) := PT.imp (pt_cmpR ho ha hb hm) fun σ H Q h => tE_op hg σ H _ (tT_of h)
theorem t_and1 (ha : PT X a (tT C E ma)) : PW X (.BoolOp .And [a] pos) (tT C E ma) := pw_and1 ha
theorem t_or1 (ha : PT X a (tT C E ma)) : PW X (.BoolOp .Or [a] pos) (tT C E ma) := pw_or1 ha
theorem t_and (ha : PT X a (tT C E ma)) (hb : PW X (.BoolOp .And (b :: rest) pos) (tT C E mb)) : PW X (.BoolOp .And (a :: b :: rest) pos) (tT C E (mAnd ma mb)) := by
  refine PW.imp (pw_and ha hb) fun σ H Q ⟨r, ad, G, s, k⟩ => ⟨r, ad, G, s, ?_⟩
  unfold mAnd at k
  unfold kT at k ⊢
  cases e : ma r with
  | bad => simp only [e, bindE] at k
  | exc c fs => simp only [e, bindE] at k; exact k
  | ok d r1 =>
    simp only [e, bindE] at k
    cases d with
    | bl v =>
      refine ⟨v, rfl, fun G1 H1 s1 g1 => ?_⟩
      cases v with
      | false =>
        obtain ⟨b, e1, k⟩ := k
        cases e1
        exact iteF (k G1 H1 s1 g1)
      | true =>
        refine iteT ⟨r1, ad, G1, s1, ?_⟩
        simp only at k
        unfold kT
        cases e2 : mb r1 with
        | bad => rw [e2] at k; exact k
        | exc c fs => rw [e2] at k; exact k
        | ok d r2 =>
          rw [e2] at k
          obtain ⟨b, e3, k⟩ := k
          exact ⟨b, e3, fun G2 H2 s2 g2 => k G2 H2 s2 (g1.trans g2)⟩
    | _ => exact k.elim
theorem t_or (ha : PT X a (tT C E ma)) (hb : PW X (.BoolOp .Or (b :: rest) pos) (tT C E mb)) : PW X (.BoolOp .Or (a :: b :: rest) pos) (tT C E (mOr ma mb)) := by
  refine PW.imp (pw_or ha hb) fun σ H Q ⟨r, ad, G, s, k⟩ => ⟨r, ad, G, s, ?_⟩
  unfold mOr at k
  unfold kT at k ⊢
  cases e : ma r with
  | bad => simp only [e, bindE] at k
  | exc c fs => simp only [e, bindE] at k; exact k
  | ok d r1 =>
    simp only [e, bindE] at k
    cases d with
    | bl v =>
      refine ⟨v, rfl, fun G1 H1 s1 g1 => ?_⟩
      cases v with
      | true =>
        obtain ⟨b, e1, k⟩ := k
        cases e1
        exact iteT (k G1 H1 s1 g1)
      | false =>
        refine iteF ⟨r1, ad, G1, s1, ?_⟩
        simp only at k
        unfold kT
        cases e2 : mb r1 with
        | bad => rw [e2] at k; exact k
        | exc c fs => rw [e2] at k; exact k
        | ok d r2 =>
          rw [e2] at k
          obtain ⟨b, e3, k⟩ := k
          exact ⟨b, e3, fun G2 H2 s2 g2 => k G2 H2 s2 (g1.trans g2)⟩
    | _ => exact k.elim
theorem t_not (ha : PT X a (tT C E ma)) : PT X (.UnaryOp .Not a pos) (tT C E (mNot ma)) := by
  refine PT.imp (pt_not ha) fun σ H Q ⟨r, ad, G, s, k⟩ => ⟨r, ad, G, s, ?_⟩
  unfold mNot mUn at k
  unfold kT at k ⊢
  cases e : ma r with
  | bad => simp only [e, bindE] at k
  | exc c fs => simp only [e, bindE] at k; exact k
  | ok d r1 =>
    simp only [e, bindE] at k
    cases d with
    | bl v =>
      obtain ⟨b, e1, k⟩ := k
      cases e1
      exact ⟨v, rfl, k⟩
    | _ => exact k.elim
/-- a if t else b -/
theorem e_if (hc : PT X c (tT C E mc)) (ha : PE X a (tE C E ma)) (hb : PE X b (tE C E mb)) : PE X (.IfExp c a b pos) (tE C E (mIf mc ma mb)) := by
  refine PE.imp (pe_ifExp hc ha hb) fun σ H Q ⟨r, ad, G, s, k⟩ => ⟨r, ad, G, s, ?_⟩
  unfold mIf at k
  unfold kT
  unfold kE at k
  cases e : mc r with
  | bad => simp only [e, bindE] at k
  | exc c fs => simp only [e, bindE] at k; exact k
  | ok d r1 =>
    simp only [e, bindE] at k
    cases d with
    | bl v =>
      refine ⟨v, rfl, fun G1 H1 s1 g1 => ?_⟩
      cases v with
      | true =>
        refine iteT ⟨r1, ad, G1, s1, ?_⟩
        simp only at k
        unfold kE
        cases e2 : ma r1 with
        | bad => rw [e2] at k; exact k
        | exc c fs => rw [e2] at k; exact k
        | ok d r2 =>
          rw [e2] at k
          exact fun v G2 H2 s2 g2 p2 => k v G2 H2 s2 (g1.trans g2) p2
      | false =>
        refine iteF ⟨r1, ad, G1, s1, ?_⟩
        simp only at k
        unfold kE
        cases e2 : mb r1 with
        | bad => rw [e2] at k; exact k
        | exc c fs => rw [e2] at k; exact k
        | ok d r2 =>
          rw [e2] at k
          exact fun v G2 H2 s2 g2 p2 => k v G2 H2 s2 (g1.trans g2) p2
    | _ => exact k.elim
/-- and, or, not as values -/
theorem e_one {op} (h : PE X a (tE C E ma)) : PE X (.BoolOp op [a] pos) (tE C E ma) := pe_one h
theorem e_and (ha : PE X a (tE C E ma)) (hb : PE X (.BoolOp .And (b :: rest) pos) (tE C E mb)) : PE X (.BoolOp .And (a :: b :: rest) pos) (tE C E (mAnd ma mb)) := by
  refine PE.imp (pe_and ha hb) fun σ H Q ⟨r, ad, G, s, k⟩ => ⟨r, ad, G, s, ?_⟩
  unfold mAnd at k
  unfold kE at k ⊢
  cases e : ma r with
  | bad => simp only [e, bindE] at k
  | exc c fs => simp only [e, bindE] at k; exact k
  | ok d r1 =>
    simp only [e, bindE] at k
    intro v G1 H1 s1 g1 p1
    cases d with
    | bl z =>
      refine ⟨z, rp_bl p1, ?_⟩
      cases z with
      | false => exact iteF (k _ G1 H1 s1 g1 (.bl false))
      | true =>
        refine iteT ⟨r1, ad, G1, s1, ?_⟩
        simp only at k
        unfold kE
        cases e2 : mb r1 with
        | bad => rw [e2] at k; exact k
        | exc c fs => rw [e2] at k; exact k
        | ok d r2 =>
          rw [e2] at k
          exact fun v G2 H2 s2 g2 p2 => k v G2 H2 s2 (g1.trans g2) p2
    | _ => exact k.elim
theorem e_or (ha : PE X a (tE C E ma)) (hb : PE X (.BoolOp .Or (b :: rest) pos) (tE C E mb)) : PE X (.BoolOp .Or (a :: b :: rest) pos) (tE C E (mOr ma mb)) := by
  refine PE.imp (pe_or ha hb) fun σ H Q ⟨r, ad, G, s, k⟩ => ⟨r, ad, G, s, ?_⟩
  unfold mOr at k
  unfold kE at k ⊢
  cases e : ma r with
  | bad => simp only [e, bindE] at k
  | exc c fs => simp only [e, bindE] at k; exact k
  | ok d r1 =>
    simp only [e, bindE] at k
    intro v G1 H1 s1 g1 p1
    cases d with
    | bl z =>
      refine ⟨z, rp_bl p1, ?_⟩
      cases z with
      | true => exact iteT (k _ G1 H1 s1 g1 (.bl true))
      | false =>
        refine iteF ⟨r1, ad, G1, s1, ?_⟩
        simp only at k
        unfold kE
        cases e2 : mb r1 with
        | bad => rw [e2] at k; exact k
        | exc c fs => rw [e2] at k; exact k
        | ok d r2 =>
          rw [e2] at k
          exact fun v G2 H2 s2 g2 p2 => k v G2 H2 s2 (g1.trans g2) p2
    | _ => exact k.elim
theorem e_not (ha : PE X a (tE C E ma)) : PE X (.UnaryOp .Not a pos) (tE C E (mNot ma)) := by
  refine PE.imp (pe_not ha) fun σ H Q ⟨r, ad, G, s, k⟩ => ⟨r, ad, G, s, ?_⟩
  unfold mNot mUn at k
  unfold kE at k ⊢
  cases e : ma r with
  | bad => simp only [e, bindE] at k
  | exc c fs => simp only [e, bindE] at k; exact k
  | ok d r1 =>
    simp only [e, bindE] at k
    intro v G1 H1 s1 g1 p1
    cases d with
    | bl z => exact ⟨z, rp_bl p1, k _ G1 H1 s1 g1 (.bl _)⟩
    | _ => exact k.elim
/-- a op b op' c -/
def mChain (g g' : D → D → Option D) (a b c : ME) : ME := fun r => bindE (a r) fun x r1 => bindE (b r1) fun y r2 => match g x y with
  | some (.bl true) => bindE (c r2) fun z r3 => optE (g' y z) r3
  | some (.bl false) => .ok (.bl false) r2
  | _ => .bad
theorem tE_chain {q q' : R2} {g g' : D → D → Option D} (hg : OpD C q g) (hg' : OpD C q' g') : ∀ σ H Q, tE C E (mChain g g' ma mb mc) σ H Q → tChain q q' (tE C E ma) (tE C E mb) (tE C E mc) σ H Q := by
  intro σ H Q ⟨r, ad, G, s, k⟩
  refine ⟨r, ad, G, s, ?_⟩
  unfold mChain at k
  unfold kE at k ⊢
  cases ea : ma r with
  | bad => simp only [ea, bindE] at k
  | exc c fs => simp only [ea, bindE] at k; exact k
  | ok x r1 =>
    simp only [ea, bindE] at k
    intro v G1 H1 s1 g1 p1
    refine ⟨r1, ad, G1, s1, ?_⟩
    unfold kE
    cases eb : mb r1 with
    | bad => simp only [eb] at k
    | exc c fs => simp only [eb] at k; exact k
    | ok y r2 =>
      simp only [eb] at k
      intro u G2 H2 s2 g2 p2
      cases eg : g x y with
      | none => simp only [eg] at k
      | some d =>
        simp only [eg] at k
        refine hg G2 H2 v u x y d _ s2.hst (p1.up g2.g) p2 eg fun w G3 H3 gr p3 => ?_
        cases d with
        | bl z =>
          refine ⟨z, rp_bl p3, ?_⟩
          have s3 := s2.grow gr
          have g3 := (g1.trans g2).trans (Kp.grow gr)
          cases z with
          | false => exact iteF (k _ G3 H3 s3 g3 (.bl false))
          | true =>
            refine iteT ⟨r2, ad, G3, s3, ?_⟩
            simp only at k
            unfold kE
            cases ec : mc r2 with
            | bad => simp only [ec] at k
            | exc c fs => simp only [ec] at k; exact k
            | ok zz r3 =>
              simp only [ec] at k
              intro t G4 H4 s4 g4 p4
              cases eg' : g' y zz with
              | none => rw [eg'] at k; exact k.elim
              | some d' =>
                rw [eg'] at k
                exact hg' G4 H4 u t y zz d' Q s4.hst ((p2.up gr.g).up g4.g) p4 eg' fun w2 G5 H5 gr5 p5 => k w2 G5 H5 (s4.grow gr5) ((g3.trans g4).trans (Kp.grow gr5)) p5
        | _ => exact k.elim
theorem e_chain {op op' : CmpOp} {q q' : R2} {g g' : D → D → Option D} (ho : OpR X (compareOp op) q) (ho' : OpR X (compareOp op') q') (hg : OpD C q g) (hg' : OpD C q' g') (ha : PE X a (tE C E ma)) (hb : PE X b (tE C E mb)) (hc : PE X c (tE C E mc))
    (hm : lastMarks [op, op'] [b, c] = false := by with_unfolding_all rfl) : PE X (.Compare a [op, op'] [b, c] pos) (tE C E (mChain g g' ma mb mc)) := PE.imp (pe_chain ho ho' ha hb hc hm) (tE_chain hg hg')
theorem t_chain {op op' : CmpOp} {q q' : R2} {g g' : D → D → Option D} (ho : OpR X (compareOp op) q) (ho' : OpR X (compareOp op') q') (hg : OpD C q g) (hg' : OpD C q' g') (ha : PE X a (tE C E ma)) (hb : PE X b (tE C E mb)) (hc : PE X c (tE C E mc))
    (hm : lastMarks [op, op'] [b, c] = false := by with_unfolding_all rfl) : PT X (.Compare a [op, op'] [b, c] pos) (tT C E (mChain g g' ma mb mc)) := PT.imp (pt_chain ho ho' ha hb hc hm) fun σ H Q h => tE_chain hg hg' σ H _ (tT_of h)
end
end DL

/-! States that change; statements; targets. -/
namespace DL
open PySem PySem.Spec PyProof.Rows L2

theorem get_set {α : Type} {l : List α} {i j : Nat} {a b : α} (h : (l.set i a)[j]? = some b) : (j = i ∧ b = a ∧ i < l.length) ∨ (j ≠ i ∧ l[j]? = some b) := by
  rw [List.getElem?_set] at h
  split at h
  · rename_i e
    split at h
    · rename_i q; cases h; exact .inl ⟨e.symm, rfl, q⟩
    · cases h
  · rename_i e; exact .inr ⟨fun z => e z.symm, h⟩
theorem set_at {α : Type} {l : List α} {i : Nat} {a : α} (h : i < l.length) : (l.set i a)[i]? = some a := by
  rw [List.getElem?_set]; simp [h]
theorem set_no {α : Type} {l : List α} {i j : Nat} {a : α} (h : j ≠ i) : (l.set i a)[j]? = l[j]? := by
  rw [List.getElem?_set]; simp [Ne.symm h]
theorem lt_of_get {α : Type} {l : List α} {i : Nat} {a : α} (h : l[i]? = some a) : i < l.length := (List.getElem?_eq_some_iff.mp h).1
theorem own_set_dat {r : DEnv} {i j : Nat} {d : D} (h : isOwn (r.set i (.dat d)) j) : j ≠ i ∧ isOwn r j := by
  rcases h with ⟨k, l, h⟩ | ⟨t, l, h⟩
  · rcases get_set h with ⟨_, e, _⟩ | ⟨n, e⟩
    · cases e
    · exact ⟨n, .inl ⟨k, l, e⟩⟩
  · rcases get_set h with ⟨_, e, _⟩ | ⟨n, e⟩
    · cases e
    · exact ⟨n, .inr ⟨t, l, e⟩⟩
theorem own_set_un {r : DEnv} {i j : Nat} (h : isOwn (r.set i .un) j) : j ≠ i ∧ isOwn r j := by
  rcases h with ⟨k, l, h⟩ | ⟨t, l, h⟩
  · rcases get_set h with ⟨_, e, _⟩ | ⟨n, e⟩
    · cases e
    · exact ⟨n, .inl ⟨k, l, e⟩⟩
  · rcases get_set h with ⟨_, e, _⟩ | ⟨n, e⟩
    · cases e
    · exact ⟨n, .inr ⟨t, l, e⟩⟩
theorem own_set {r : DEnv} {i j : Nat} {x : Sl} (h : isOwn (r.set i x) j) : j = i ∨ isOwn r j := by
  rcases h with ⟨k, l, h⟩ | ⟨t, l, h⟩
  · rcases get_set h with ⟨z, _, _⟩ | ⟨n, e⟩
    · exact .inl z
    · exact .inr (.inl ⟨k, l, e⟩)
  · rcases get_set h with ⟨z, _, _⟩ | ⟨n, e⟩
    · exact .inl z
    · exact .inr (.inr ⟨t, l, e⟩)
theorem tabs_upd {T : List (Addr × Str)} {H : Hp} {a : Addr} {o : HO} (t : LamX.Tabs T H) (h1 : ∀ ps, H a ≠ some (.tbl ps)) (h2 : ∀ c q, H a ≠ some (LamX.CodeO c q)) : LamX.Tabs T (upd H a o) := by
  intro p hp
  obtain ⟨ps, e1, e2, e3⟩ := t p hp
  refine ⟨ps, ?_, e2, fun pos cv h => ?_⟩
  · rw [upd_ne]
    · exact e1
    · intro z; rw [z] at e1; exact h1 ps e1
  · obtain ⟨c, z1, z2⟩ := e3 pos cv h
    refine ⟨c, z1, ?_⟩
    rw [upd_ne]
    · exact z2
    · intro z; rw [z] at z2; exact h2 a p.2 z2
section
variable {C : Fc} {r : DEnv} {ad : Nat → Addr} {σ : L2.St} {G H : Hp}
theorem Stt.own_ne (s : Stt C r ad σ G H) {i : Nat} (h : isOwn r i) : H (ad i) ≠ none := by
  rcases h with ⟨k, l, h⟩ | ⟨t, l, h⟩
  · obtain ⟨_, _, _, _, q, _⟩ := s.own i k l h
    exact ne_of_some q
  · exact (s.ownD i t l h).2.2.2.ne
theorem Stt.setD (s : Stt C r ad σ G H) {i : Nat} {v : V} {d : D} (p : Rp C.K G v d) : Stt C (r.set i (.dat d)) ad (σ.set i (some v)) G H := by
  refine ⟨s.hst, by simpa using s.len, fun j d' e => ?_, fun j k l e => ?_, fun j t l e => ?_, fun j k a b => s.inj j k (own_set_dat a).2 (own_set_dat b).2⟩
  · rcases get_set e with ⟨rfl, e, q⟩ | ⟨n, e⟩
    · cases e
      exact ⟨v, set_at (by rw [s.len]; exact q), p⟩
    · obtain ⟨w, h1, h2⟩ := s.dat j d' e
      exact ⟨w, by rw [set_no n]; exact h1, h2⟩
  · rcases get_set e with ⟨rfl, e, q⟩ | ⟨n, e⟩
    · cases e
    · obtain ⟨h1, h2⟩ := s.own j k l e
      exact ⟨by rw [set_no n]; exact h1, h2⟩
  · rcases get_set e with ⟨rfl, e, q⟩ | ⟨n, e⟩
    · cases e
    · obtain ⟨h1, h2⟩ := s.ownD j t l e
      exact ⟨by rw [set_no n]; exact h1, h2⟩
theorem Stt.setU (s : Stt C r ad σ G H) {i : Nat} {v : Option V} : Stt C (r.set i .un) ad (σ.set i v) G H := by
  refine ⟨s.hst, by simpa using s.len, fun j d' e => ?_, fun j k l e => ?_, fun j t l e => ?_, fun j k a b => s.inj j k (own_set_un a).2 (own_set_un b).2⟩
  · rcases get_set e with ⟨rfl, e, q⟩ | ⟨n, e⟩
    · cases e
    · obtain ⟨w, h1, h2⟩ := s.dat j d' e
      exact ⟨w, by rw [set_no n]; exact h1, h2⟩
  · rcases get_set e with ⟨rfl, e, q⟩ | ⟨n, e⟩
    · cases e
    · obtain ⟨h1, h2⟩ := s.own j k l e
      exact ⟨by rw [set_no n]; exact h1, h2⟩
  · rcases get_set e with ⟨rfl, e, q⟩ | ⟨n, e⟩
    · cases e
    · obtain ⟨h1, h2⟩ := s.ownD j t l e
      exact ⟨by rw [set_no n]; exact h1, h2⟩
/-- a new thing held alone in slot i -/
theorem Stt.setN (s : Stt C r ad σ G H) {i : Nat} {p : Addr} {x : Sl} (np : ∀ j, isOwn r j → ad j ≠ p) (g : G p = none) (h0 : C.H0 p = none)
    (hx : (∃ l xs, x = .own false l ∧ H p = some (.lst xs) ∧ RpL C.K G xs l) ∨ ∃ t l, x = .ownD t l ∧ DictAt C.K G H p t l) :
    Stt C (r.set i x) (fun j => if j = i then p else ad j) (σ.set i (some (.ref p))) G H := by
  refine ⟨s.hst, by simpa using s.len, fun j d' e => ?_, fun j k l e => ?_, fun j t l e => ?_, fun j k a b e => ?_⟩
  · rcases get_set e with ⟨rfl, e, q⟩ | ⟨n, e⟩
    · rcases hx with ⟨_, _, z, _⟩ | ⟨_, _, z, _⟩ <;> rw [z] at e <;> cases e
    · obtain ⟨w, h1, h2⟩ := s.dat j d' e
      exact ⟨w, by rw [set_no n]; exact h1, h2⟩
  · rcases get_set e with ⟨rfl, e, q⟩ | ⟨n, e⟩
    · rcases hx with ⟨l', xs, z, h1, h2⟩ | ⟨_, _, z, _⟩
      · rw [z] at e; cases e
        rw [if_pos rfl]
        exact ⟨set_at (by rw [s.len]; exact q), h0, g, xs, h1, h2⟩
      · rw [z] at e; cases e
    · obtain ⟨h1, h2⟩ := s.own j k l e
      rw [if_neg n]
      exact ⟨by rw [set_no n]; exact h1, h2⟩
  · rcases get_set e with ⟨rfl, e, q⟩ | ⟨n, e⟩
    · rcases hx with ⟨_, _, z, _⟩ | ⟨t', l', z, h1⟩
      · rw [z] at e; cases e
      · rw [z] at e; cases e
        rw [if_pos rfl]
        exact ⟨set_at (by rw [s.len]; exact q), h0, g, h1⟩
    · obtain ⟨h1, h2⟩ := s.ownD j t l e
      rw [if_neg n]
      exact ⟨by rw [set_no n]; exact h1, h2⟩
  · have a' := own_set a
    have b' := own_set b
    by_cases hj : j = i
    · by_cases hk : k = i
      · rw [hj, hk]
      · rw [if_pos hj, if_neg hk] at e
        exact absurd e.symm (np k (b'.resolve_left hk))
    · by_cases hk : k = i
      · rw [if_neg hj, if_pos hk] at e
        exact absurd e (np j (a'.resolve_left hj))
      · rw [if_neg hj, if_neg hk] at e
        exact s.inj j k (a'.resolve_left hj) (b'.resolve_left hk) e
/-- the heap with what slot i holds alone put otherwise -/
theorem Hst.put (s : Hst C G H) {a : Addr} {o : HO} (g : G a = none) (h0 : C.H0 a = none ∨ (a ∈ C.io ∧ wr (some o))) (hn : H a ≠ none) (h1 : ∀ ps, H a ≠ some (.tbl ps)) (h2 : ∀ c q, H a ≠ some (LamX.CodeO c q)) : Hst C G (upd H a o) := by
  refine ⟨fun b u e => ?_, s.gnt, s.g0, fun b n => ?_, fun b n => ?_, fun b u e n t => ?_, s.nofz, tabs_upd s.tabs h1 h2⟩
  · rw [upd_ne (ne_of_none e g)]; exact s.sub b u e
  · by_cases hb : b = a
    · rw [hb, upd_same]; simp
    · rw [upd_ne hb]; exact s.dom b n
  · by_cases hb : b = a
    · rw [hb, upd_same]
      rcases h0 with h | h
      · rw [hb, h] at n; exact n.elim
      · exact h.2
    · rw [upd_ne hb]; exact s.domN b n
  · rw [upd_ne]
    · exact s.keep b u e n t
    · intro z
      rcases h0 with h | h
      · rw [z, h] at e; cases e
      · exact n (by rw [z]; exact h.1)
theorem Stt.putO (s : Stt C r ad σ G H) {i : Nat} {k : Bool} {l l' : List D} {ys : List V} (e : r[i]? = some (.own k l)) (p : RpL C.K G ys l') : Stt C (r.set i (.own k l')) ad σ G (upd H (ad i) (.lst ys)) := by
  obtain ⟨h1, h2, h3, xs, h4, h5⟩ := s.own i k l e
  have oi : isOwn r i := .inl ⟨k, l, e⟩
  have sub : ∀ j, isOwn (r.set i (.own k l')) j → isOwn r j := fun j h => by
    rcases own_set h with z | z
    · rw [z]; exact oi
    · exact z
  have h0 : C.H0 (ad i) = none ∨ (ad i ∈ C.io ∧ wr (some (.lst ys))) := by
    cases k with
    | true => exact .inr ⟨h2, trivial⟩
    | false => exact .inl h2
  refine ⟨s.hst.put h3 h0 (ne_of_some h4) (fun ps z => by rw [h4] at z; cases z) (fun c q z => by rw [h4] at z; cases z), by simpa using s.len, fun j d' q => ?_, fun j k' m q => ?_, fun j t m q => ?_, fun j k' a b => s.inj j k' (sub j a) (sub k' b)⟩
  · rcases get_set q with ⟨_, q, _⟩ | ⟨n, q⟩
    · cases q
    · exact s.dat j d' q
  · rcases get_set q with ⟨rfl, q, _⟩ | ⟨n, q⟩
    · cases q
      exact ⟨h1, h2, h3, ys, upd_same, p⟩
    · obtain ⟨z1, z2, z3, zs, z4, z5⟩ := s.own j k' m q
      have ne : ad j ≠ ad i := fun z => n (s.inj j i (.inl ⟨k', m, q⟩) oi z)
      exact ⟨z1, z2, z3, zs, by rw [upd_ne ne]; exact z4, z5⟩
  · rcases get_set q with ⟨_, q, _⟩ | ⟨n, q⟩
    · cases q
    · obtain ⟨z1, z2, z3, z4⟩ := s.ownD j t m q
      have ne : ad j ≠ ad i := fun z => n (s.inj j i (.inr ⟨t, m, q⟩) oi z)
      exact ⟨z1, z2, z3, z4.up (Same.refl _) (upd_ne ne)⟩
theorem Stt.putDi (s : Stt C r ad σ G H) {i : Nat} {t : Bool} {l l' : List (D × D)} {o : HO} (e : r[i]? = some (.ownD t l)) (p : DictAt C.K G (upd H (ad i) o) (ad i) t l') : Stt C (r.set i (.ownD t l')) ad σ G (upd H (ad i) o) := by
  obtain ⟨h1, h2, h3, h4⟩ := s.ownD i t l e
  have oi : isOwn r i := .inr ⟨t, l, e⟩
  have sub : ∀ j, isOwn (r.set i (.ownD t l')) j → isOwn r j := fun j h => by
    rcases own_set h with z | z
    · rw [z]; exact oi
    · exact z
  have nt : (∀ ps, H (ad i) ≠ some (.tbl ps)) ∧ ∀ c q, H (ad i) ≠ some (LamX.CodeO c q) := by
    rcases h4 with ⟨_, _, z, _⟩ | ⟨_, _, z, _⟩ <;> exact ⟨fun ps y => (by rw [z] at y; cases y), fun c q y => by rw [z] at y; cases y⟩
  refine ⟨s.hst.put h3 (.inl h2) h4.ne nt.1 nt.2, by simpa using s.len, fun j d' q => ?_, fun j k' m q => ?_, fun j t' m q => ?_, fun j k' a b => s.inj j k' (sub j a) (sub k' b)⟩
  · rcases get_set q with ⟨_, q, _⟩ | ⟨n, q⟩
    · cases q
    · exact s.dat j d' q
  · rcases get_set q with ⟨_, q, _⟩ | ⟨n, q⟩
    · cases q
    · obtain ⟨z1, z2, z3, zs, z4, z5⟩ := s.own j k' m q
      have ne : ad j ≠ ad i := fun z => n (s.inj j i (.inl ⟨k', m, q⟩) oi z)
      exact ⟨z1, z2, z3, zs, by rw [upd_ne ne]; exact z4, z5⟩
  · rcases get_set q with ⟨rfl, q, _⟩ | ⟨n, q⟩
    · cases q
      exact ⟨h1, h2, h3, p⟩
    · obtain ⟨z1, z2, z3, z4⟩ := s.ownD j t' m q
      have ne : ad j ≠ ad i := fun z => n (s.inj j i (.inr ⟨t', m, q⟩) oi z)
      exact ⟨z1, z2, z3, z4.up (Same.refl _) (upd_ne ne)⟩
/-- something new that lies still from now on -/
theorem Hst.still (s : Hst C G H) {p : Addr} {o : HO} (g : G p = none) (h0 : C.H0 p = none) (hp : H p = some o) (ho : ∀ ps, o ≠ .tbl ps) : Hst C (upd G p o) H := by
  refine ⟨fun b u e => ?_, fun b ps e => ?_, fun b u e => ?_, s.dom, s.domN, s.keep, fun b n z => ?_, s.tabs⟩
  · by_cases hb : b = p
    · rw [hb, upd_same] at e; cases e; rw [hb]; exact hp
    · rw [upd_ne hb] at e; exact s.sub b u e
  · by_cases hb : b = p
    · rw [hb, upd_same] at e; exact ho ps (Option.some.inj e)
    · rw [upd_ne hb] at e; exact s.gnt b ps e
  · have e' := s.g0 b u e
    rw [upd_ne (ne_of_none e' g)]; exact e'
  · have hb : b ≠ p := fun hb => by rw [hb, h0] at n; exact n
    rw [upd_ne hb]; exact s.nofz b n z
theorem same_upd {G : Hp} {p : Addr} {o : HO} (g : G p = none) : Same G (upd G p o) := fun b u e => by rw [upd_ne (ne_of_none e g)]; exact e
theorem Stt.still (s : Stt C r ad σ G H) {p : Addr} {o : HO} (g : G p = none) (h0 : C.H0 p = none) (hp : H p = some o) (ho : ∀ ps, o ≠ .tbl ps) (np : ∀ j, isOwn r j → ad j ≠ p) : Stt C r ad σ (upd G p o) H := by
  have sg : Same G (upd G p o) := same_upd g
  refine ⟨s.hst.still g h0 hp ho, s.len, fun j d e => ?_, fun j k l e => ?_, fun j t l e => ?_, s.inj⟩
  · obtain ⟨v, h1, h2⟩ := s.dat j d e
    exact ⟨v, h1, h2.up sg⟩
  · obtain ⟨h1, h2, h3, xs, h4, h5⟩ := s.own j k l e
    exact ⟨h1, h2, by rw [upd_ne (np j (.inl ⟨k, l, e⟩))]; exact h3, xs, h4, h5.up sg⟩
  · obtain ⟨h1, h2, h3, h4⟩ := s.ownD j t l e
    exact ⟨h1, h2, by rw [upd_ne (np j (.inr ⟨t, l, e⟩))]; exact h3, h4.up sg rfl⟩
/-- slot i's own list lies still from now on -/
theorem Stt.frz (s : Stt C r ad σ G H) {i : Nat} {l : List D} (e : r[i]? = some (.own false l)) : ∃ G', Same G G' ∧ Stt C (r.set i (.dat (.lst l))) ad σ G' H := by
  obtain ⟨h1, h2, h3, xs, h4, h5⟩ := s.own i false l e
  have sg : Same G (upd G (ad i) (.lst xs)) := same_upd h3
  have u : Stt C (r.set i .un) ad σ G H := by
    have z := s.setU (i := i) (v := some (V.ref (ad i)))
    have q : σ.set i (some (V.ref (ad i))) = σ := by
      apply List.ext_getElem?
      intro j
      by_cases hj : j = i
      · rw [hj, set_at (lt_of_get h1), h1]
      · rw [set_no hj]
    rw [q] at z
    exact z
  have np : ∀ j, isOwn (r.set i .un) j → ad j ≠ ad i := fun j h z => (own_set_un h).1 (s.inj j i (own_set_un h).2 (.inl ⟨false, l, e⟩) z)
  have u2 := u.still h3 h2 h4 (fun _ z => nomatch z) np
  have u3 := u2.setD (i := i) (v := .ref (ad i)) (d := .lst l) (.lst upd_same (h5.up sg))
  refine ⟨_, sg, ?_⟩
  have q : σ.set i (some (V.ref (ad i))) = σ := by
    apply List.ext_getElem?
    intro j
    by_cases hj : j = i
    · rw [hj, set_at (lt_of_get h1), h1]
    · rw [set_no hj]
  rw [q, List.set_set] at u3
  exact u3
end

/-! ### statements -/
def sNil : MS := fun r => .nx r
def sSeq (a b : MS) : MS := fun r => match a r with
  | .nx r1 => b r1
  | x => x
def sIf (c : ME) (a b : MS) : MS := fun r => match c r with
  | .ok (.bl true) r1 => a r1
  | .ok (.bl false) r1 => b r1
  | .exc x fs => .exc x fs
  | _ => .bad
def sRet (a : ME) : MS := fun r => match a r with
  | .ok d r1 => .rt d r1
  | .exc x fs => .exc x fs
  | .bad => .bad
def sAsg (i : Nat) (a : ME) : MS := fun r => match a r with
  | .ok d r1 => .nx (r1.set i (.dat d))
  | .exc x fs => .exc x fs
  | .bad => .bad
def sExp (a : ME) : MS := fun r => match a r with
  | .ok _ r1 => .nx r1
  | .exc x fs => .exc x fs
  | .bad => .bad
def sFrz (i : Nat) (a : MS) : MS := fun r => match r[i]? with
  | some (.own false l) => a (r.set i (.dat (.lst l)))
  | _ => .bad
theorem kS_up {C : Fc} {E : XK} {x : SR} {G G' : Hp} {Dn : Ends} (h : kS C E x G Dn) (g : Same G G') : kS C E x G' Dn := by
  unfold kS at h ⊢
  cases x <;> first
    | exact fun ad' σ' G2 H' s g2 => h ad' σ' G2 H' s (g.trans g2)
    | exact h
section
variable {X : Cx} {C : Fc} {E : XK} {pos : Pos}
theorem s_nil : PSs X [] (tS C E sNil) := PSs.imp pss_nil fun Dn σ H ⟨r, ad, G, s, k⟩ => k ad σ G H s (Same.refl _)
theorem s_pass : PS X (.Pass pos) (tS C E sNil) := PS.imp ps_pass fun Dn σ H ⟨r, ad, G, s, k⟩ => k ad σ G H s (Same.refl _)
theorem s_brk : PS X (.Break pos) (tS C E fun r => .bk r) := PS.imp ps_break fun Dn σ H ⟨r, ad, G, s, k⟩ => k ad σ G H s (Same.refl _)
theorem s_cnt : PS X (.Continue pos) (tS C E fun r => .ct r) := PS.imp ps_continue fun Dn σ H ⟨r, ad, G, s, k⟩ => k ad σ G H s (Same.refl _)
theorem s_cons {st : Stmt} {rest : List Stmt} {a b : MS} (ha : PS X st (tS C E a)) (hb : PSs X rest (tS C E b)) : PSs X (st :: rest) (tS C E (sSeq a b)) := by
  refine PSs.imp (pss_cons ha hb) fun Dn σ H ⟨r, ad, G, s, k⟩ => ⟨r, ad, G, s, ?_⟩
  unfold sSeq at k
  cases e : a r with
  | nx r1 =>
    rw [e] at k
    exact fun ad1 σ1 G1 H1 s1 g1 => ⟨r1, ad1, G1, s1, kS_up k g1⟩
  | _ => rw [e] at k; exact k
theorem s_one {st : Stmt} {a : MS} (ha : PS X st (tS C E a)) : PSs X [st] (tS C E a) := pss_one ha
theorem s_if {c : Expr} {a b : List Stmt} {mc : ME} {ma mb : MS} (hc : PT X c (tT C E mc)) (ha : PSs X a (tS C E ma)) (hb : PSs X b (tS C E mb)) : PS X (.If c a b pos) (tS C E (sIf mc ma mb)) := by
  refine PS.imp (ps_if hc ha hb) fun Dn σ H ⟨r, ad, G, s, k⟩ => ⟨r, ad, G, s, ?_⟩
  unfold sIf at k
  unfold kT
  cases e : mc r with
  | bad => rw [e] at k; exact k
  | exc c fs => rw [e] at k; exact k
  | ok d r1 =>
    rw [e] at k
    cases d with
    | bl b =>
      refine ⟨b, rfl, fun G1 H1 s1 g1 => ?_⟩
      cases b with
      | true => exact iteT ⟨r1, ad, G1, s1, kS_up k g1.g⟩
      | false => exact iteF ⟨r1, ad, G1, s1, kS_up k g1.g⟩
    | _ => exact k.elim
theorem s_ret {e : Expr} {m : ME} (h : PE X e (tE C E m)) : PS X (.Return (some e) pos) (tS C E (sRet m)) := by
  refine PS.imp (ps_ret h) fun Dn σ H ⟨r, ad, G, s, k⟩ => ⟨r, ad, G, s, ?_⟩
  unfold sRet at k
  unfold kE
  cases e : m r with
  | bad => rw [e] at k; exact k
  | exc c fs => rw [e] at k; exact k
  | ok d r1 =>
    rw [e] at k
    exact fun v G1 H1 s1 g1 p1 => k v ad σ G1 H1 s1 p1
theorem s_exp {e : Expr} {m : ME} (h : PE X e (tE C E m)) (hs : swapsWith e none pos.line X.env = pure false := by rfl) : PS X (.Expr e pos) (tS C E (sExp m)) := by
  refine PS.imp (ps_expr h hs) fun Dn σ H ⟨r, ad, G, s, k⟩ => ⟨r, ad, G, s, ?_⟩
  unfold sExp at k
  unfold kE
  cases e : m r with
  | bad => rw [e] at k; exact k
  | exc c fs => rw [e] at k; exact k
  | ok d r1 =>
    rw [e] at k
    exact fun v G1 H1 s1 g1 p1 => k ad σ G1 H1 s1 g1.g
theorem s_asg {i : Nat} {x : Str} {e : Expr} {m : ME} {pos' : Pos} (hN : X.N.Nodup) (h : PE X e (tE C E m)) (hi : X.N[i]? = some x := by rfl) (hx : Loc X.env.scope x := by first | exact Or.inl rfl | exact Or.inr rfl)
    (hs : swapsWith e (some (.Name x pos')) pos.line X.env = pure false := by rfl) (hf : X.fn x = true ∨ X.env.scope.names.lookup x = some .local := by first | exact .inl rfl | exact .inr rfl | assumption) :
    PS X (.Assign [.Name x pos'] e pos) (tS C E (sAsg i m)) := by
  refine PS.imp (ps_set hN hi hx h hs hf) fun Dn σ H ⟨r, ad, G, s, k⟩ => ⟨r, ad, G, s, ?_⟩
  unfold sAsg at k
  unfold kE
  cases e : m r with
  | bad => rw [e] at k; exact k
  | exc c fs => rw [e] at k; exact k
  | ok d r1 =>
    rw [e] at k
    exact fun v G1 H1 s1 g1 p1 => k ad _ G1 H1 (s1.setD p1) g1.g
/-- slot i lies still from here on -/
theorem s_frz {st : Stmt} {a : MS} (i : Nat) (h : PS X st (tS C E a)) : PS X st (tS C E (sFrz i a)) := by
  refine PS.imp h fun Dn σ H ⟨r, ad, G, s, k⟩ => ?_
  unfold sFrz at k
  split at k
  · rename_i l e
    obtain ⟨G', g, s'⟩ := s.frz e
    exact ⟨_, ad, G', s', kS_up k g⟩
  · exact k.elim
end
end DL

/-! New lists held alone, targets, walks, comprehensions, defs. -/
namespace DL
open PySem PySem.Spec PyProof.Rows L2

/-! ### a new list that nobody else holds -/
def kO (C : Fc) (E : XK) (x : AR) (r : DEnv) (ad : Nat → Addr) (σ : L2.St) (G H : Hp) (Q : VK) : Prop :=
  match x with
  | .ok l r' => ∀ p xs G' H', Stt C r' ad σ G' H' → Kp C r r' ad G H G' H' → H p = none → G' p = none → H' p = some (.lst xs) → RpL C.K G' xs l → Q (.ref p) H'
  | .exc c fs => kX C E c fs
  | .bad => False
def tO (C : Fc) (E : XK) (m : MA) : TE := fun σ H Q => ∃ r ad G, Stt C r ad σ G H ∧ kO C E (m r) r ad σ G H Q
def mFrz (m : MA) : ME := fun r => match m r with
  | .ok l r1 => .ok (.lst l) r1
  | .exc c fs => .exc c fs
  | .bad => .bad
def mShort (m : MA) : MA := fun r => match m r with
  | .ok l r1 => if short l then .ok l r1 else .bad
  | .exc c fs => .exc c fs
  | .bad => .bad
section
variable {C : Fc} {r r' : DEnv} {ad : Nat → Addr} {σ : L2.St} {G H G' H' : Hp}
theorem new_own (s : Stt C r ad σ G H) (k : Kp C r r' ad G H G' H') {p : Addr} (n : H p = none) : ∀ j, isOwn r' j → ad j ≠ p := fun j h z => s.own_ne (k.o j h) (by rw [z]; exact n)
theorem new_H0 (s : Stt C r ad σ G H) {p : Addr} (n : H p = none) : C.H0 p = none := by
  cases q : C.H0 p with
  | none => rfl
  | some o => exact absurd n (s.hst.dom p (by rw [q]; simp))
theorem Kp.still (k : Kp C r r' ad G H G' H') {p : Addr} {o : HO} (n : H p = none) (g : G' p = none) : Kp C r r' ad G H (upd G' p o) H' :=
  ⟨k.g.trans (same_upd g), k.o, k.dom, k.domN, k.keep, fun b z y w => by
    have hb : b ≠ p := fun hb => by rw [hb, n] at z; exact z
    rw [upd_ne hb]
    exact k.nofz b z y w⟩
end
section
variable {X : Cx} {C : Fc} {E : XK} {pos : Pos}
theorem e_frz {e : Expr} {m : MA} (h : PE X e (tO C E m)) : PE X e (tE C E (mFrz m)) := by
  refine PE.imp h fun σ H Q ⟨r, ad, G, s, k⟩ => ⟨r, ad, G, s, ?_⟩
  unfold mFrz at k
  unfold kO
  cases e : m r with
  | bad => rw [e] at k; exact k
  | exc c fs => rw [e] at k; exact k
  | ok l r1 =>
    rw [e] at k
    intro p xs G1 H1 s1 k1 n g h1 p1
    have st := s1.still g (new_H0 s n) h1 (fun _ z => nomatch z) (new_own s k1 n)
    exact k (.ref p) _ H1 st (k1.still n g) (.lst upd_same (p1.up (same_upd g)))
theorem o_lst {es : List Expr} {a : MA} (ha : PA X es (tA C E a)) : PE X (.List es pos) (tO C E (mShort a)) := by
  refine PE.imp (pe_lst ha) fun σ H Q ⟨r, ad, G, s, k⟩ => ⟨r, ad, G, s, ?_⟩
  unfold mShort at k
  unfold kA
  cases e : a r with
  | bad => rw [e] at k; exact k
  | exc c fs => rw [e] at k; exact k
  | ok l r1 =>
    rw [e] at k
    simp only at k
    intro vs G1 H1 s1 k1 p1
    split at k
    · rename_i hs
      refine ⟨by rw [p1.length, sizeLine_eq]; exact of_decide_eq_true hs, fun p hp => ?_⟩
      have n : H p = none := by
        cases q : H p with
        | none => rfl
        | some o => exact absurd hp (k1.dom p (by rw [q]; simp))
      have gr : Grow G1 H1 G1 (upd H1 p (.lst vs)) := Grow.layH s1.hst.sub s1.hst.gnt hp
      exact k p vs G1 _ (s1.grow gr) (k1.trans (Kp.grow gr)) n (s1.hst.sub.free hp) upd_same p1
    · exact k.elim
def sAsgO (i : Nat) (a : MA) : MS := fun r => match a r with
  | .ok l r1 => .nx (r1.set i (.own false l))
  | .exc x fs => .exc x fs
  | .bad => .bad
theorem s_asgO {i : Nat} {x : Str} {e : Expr} {m : MA} {pos' : Pos} (hN : X.N.Nodup) (h : PE X e (tO C E m)) (hi : X.N[i]? = some x := by rfl) (hx : Loc X.env.scope x := by first | exact Or.inl rfl | exact Or.inr rfl)
    (hs : swapsWith e (some (.Name x pos')) pos.line X.env = pure false := by rfl) (hf : X.fn x = true ∨ X.env.scope.names.lookup x = some .local := by first | exact .inl rfl | exact .inr rfl | assumption) :
    PS X (.Assign [.Name x pos'] e pos) (tS C E (sAsgO i m)) := by
  refine PS.imp (ps_set hN hi hx h hs hf) fun Dn σ H ⟨r, ad, G, s, k⟩ => ⟨r, ad, G, s, ?_⟩
  unfold sAsgO at k
  unfold kO
  cases e : m r with
  | bad => rw [e] at k; exact k
  | exc c fs => rw [e] at k; exact k
  | ok l r1 =>
    rw [e] at k
    intro p xs G1 H1 s1 k1 n g h1 p1
    exact k _ _ G1 H1 (s1.setN (new_own s k1 n) g (new_H0 s n) (.inl ⟨l, xs, rfl, h1, p1⟩)) k1.g
def sRetO (a : MA) : MS := fun r => match a r with
  | .ok l r1 => .rtO l r1
  | .exc x fs => .exc x fs
  | .bad => .bad
theorem s_retO {e : Expr} {m : MA} (h : PE X e (tO C E m)) : PS X (.Return (some e) pos) (tS C E (sRetO m)) := by
  refine PS.imp (ps_ret h) fun Dn σ H ⟨r, ad, G, s, k⟩ => ⟨r, ad, G, s, ?_⟩
  unfold sRetO at k
  unfold kO
  cases e : m r with
  | bad => rw [e] at k; exact k
  | exc c fs => rw [e] at k; exact k
  | ok l r1 =>
    rw [e] at k
    intro p xs G1 H1 s1 k1 n g h1 p1
    exact k p xs ad σ G1 H1 s1 (new_own s k1 n) (new_H0 s n) g h1 p1

/-! ### targets -/
abbrev GD := D → DEnv → Option DEnv
def tGt (C : Fc) (g : GD) : TG := fun v σ H Q => ∃ r ad G d, Stt C r ad σ G H ∧ Rp C.K G v d ∧ ∃ r', g d r = some r' ∧ ∀ σ' G' H', Stt C r' ad σ' G' H' → Kp C r r' ad G H G' H' → Q σ' H'
def tGs (C : Fc) (g : List D → DEnv → Option DEnv) : TGs := fun vs σ H Q => ∃ r ad G ds, Stt C r ad σ G H ∧ RpL C.K G vs ds ∧ ∃ r', g ds r = some r' ∧ ∀ σ' G' H', Stt C r' ad σ' G' H' → Kp C r r' ad G H G' H' → Q σ' H'
def gN (i : Nat) : GD := fun d r => some (r.set i (.dat d))
def gsNil : List D → DEnv → Option DEnv := fun l r => match l with
  | [] => some r
  | _ => none
def gsCons (g : GD) (gs : List D → DEnv → Option DEnv) : List D → DEnv → Option DEnv := fun l r => match l with
  | d :: l => (g d r).bind fun r1 => gs l r1
  | [] => none
def gTup2 (n : Nat) (gs : List D → DEnv → Option DEnv) : GD := fun d r => match d with
  | .tup l => if l.length = n then gs l r else none
  | .lst l => if l.length = n then gs l r else none
  | _ => none
theorem kp_setD {C : Fc} {r : DEnv} {ad : Nat → Addr} {G H : Hp} {i : Nat} {d : D} : Kp C r (r.set i (.dat d)) ad G H G H :=
  ⟨Same.refl _, fun j h => (own_set_dat h).2, fun _ z => z, fun _ z => z, fun _ _ z _ _ => z, fun _ _ z _ => z⟩
theorem g_n {i : Nat} {x : Str} (hN : X.N.Nodup) (hi : X.N[i]? = some x := by rfl) (hx : Loc X.env.scope x := by first | exact Or.inl rfl | exact Or.inr rfl) (hf : X.fn x = true ∨ X.env.scope.names.lookup x = some .local := by first | exact .inl rfl | exact .inr rfl | assumption) :
    PG X (.Name x pos) (tGt C (gN i)) := by
  refine ⟨fun pins s σ H v u Q I rv h => (pg_name hN hi hx hf).run pins s σ H v u Q I rv ?_⟩
  obtain ⟨r, ad, G, d, st, p, r', e, k⟩ := h
  cases e
  exact k _ G H (st.setD p) kp_setD
theorem gs_nil : PGs X [] (tGs C gsNil) := by
  refine ⟨fun pins s σ H vs us Q I rv h => pgs_nil.run pins s σ H vs us Q I rv ?_⟩
  obtain ⟨r, ad, G, ds, st, p, r', e, k⟩ := h
  cases p with
  | nil =>
    cases e
    exact ⟨rfl, k _ G H st (Kp.refl _ _ _ _ _)⟩
  | cons _ _ => cases e
theorem gs_cons {e : Expr} {es : List Expr} {g : GD} {gs : List D → DEnv → Option DEnv} (h1 : PG X e (tGt C g)) (h2 : PGs X es (tGs C gs))
    (hs : (assignEach (e :: es) X.env).map (·.2) = assign e X.env :: (assignEach es X.env).map (·.2) := by rfl) : PGs X (e :: es) (tGs C (gsCons g gs)) := by
  refine ⟨fun pins s σ H vs us Q I rv h => (pgs_cons h1 h2 hs).run pins s σ H vs us Q I rv ?_⟩
  obtain ⟨r, ad, G, ds, st, p, r', e, k⟩ := h
  cases p with
  | nil => cases e
  | cons p1 p2 =>
    rename_i v vs d ds
    unfold gsCons at e
    simp only at e
    cases eg : g d r with
    | none => rw [eg] at e; cases e
    | some r1 =>
      rw [eg] at e
      refine ⟨v, vs, rfl, r, ad, G, d, st, p1, r1, eg, fun σ1 G1 H1 s1 k1 => ?_⟩
      exact ⟨r1, ad, G1, ds, s1, p2.up k1.g, r', e, fun σ2 G2 H2 s2 k2 => k σ2 G2 H2 s2 (k1.trans k2)⟩
theorem g_tup {es : List Expr} {kk : Nat} {gs : List D → DEnv → Option DEnv} {n : Nat} (h : PGs X es (tGs C gs)) (hK : C.K = X.K := by rfl) (hc : X.calm = true := by rfl)
    (hn : (assignEach es X.env).length = n := by rfl) (hst : (assignEach es X.env).findIdx? (·.1) = none := by rfl) : PG X (.Tuple es kk pos) (tGt C (gTup2 n gs)) := by
  refine ⟨fun pins s σ H v u Q I rv h0 => ?_⟩
  obtain ⟨r, ad, G, d, st, p, r', e, k⟩ := h0
  unfold gTup2 at e
  cases d <;> first | (cases e; done) | skip
  · rename_i l
    simp only at e
    split at e
    · rename_i hl
      cases p with
      | tup hs hp =>
        refine (pg_tup hc h hn hst).run pins s σ H _ u Q I rv ⟨_, _, rfl, SqT.of (st.hst.sub _ _ hs), hp.length.trans hl, r, ad, G, l, st, hp, r', e, k⟩
    · cases e
  · rename_i l
    simp only at e
    split at e
    · rename_i hl
      cases p with
      | lst hs hp =>
        refine (pg_unl hc h hn hst).run pins s σ H _ u Q I rv ⟨_, _, rfl, SqL.of (st.hst.sub _ _ hs), hp.length.trans hl, r, ad, G, l, st, hp, r', e, k⟩
    · cases e
def sAsgT (g : GD) (a : ME) : MS := fun r => match a r with
  | .ok d r1 => (match g d r1 with
    | some r2 => .nx r2
    | none => .bad)
  | .exc x fs => .exc x fs
  | .bad => .bad
theorem s_asgT {tg e : Expr} {g : GD} {m : ME} (he : PE X e (tE C E m)) (hg : PG X tg (tGt C g)) (hs : swapsWithSole [tg] e pos.line X.env = pure false := by rfl) (hw : swappedStores [tg] e X.env = pure none := by rfl)
    (h1 : (assignEach [tg] X.env).map (·.2) = [assign tg X.env] := by rfl) : PS X (.Assign [tg] e pos) (tS C E (sAsgT g m)) := by
  refine PS.imp (ps_asg he hg hs hw h1) fun Dn σ H ⟨r, ad, G, s, k⟩ => ⟨r, ad, G, s, ?_⟩
  unfold sAsgT at k
  unfold kE
  cases e : m r with
  | bad => rw [e] at k; exact k
  | exc c fs => rw [e] at k; exact k
  | ok d r1 =>
    rw [e] at k
    simp only at k
    intro v G1 H1 s1 k1 p1
    cases eg : g d r1 with
    | none => rw [eg] at k; exact k.elim
    | some r2 =>
      rw [eg] at k
      exact ⟨r1, ad, G1, d, s1, p1, r2, eg, fun σ2 G2 H2 s2 k2 => k ad σ2 G2 H2 s2 (k1.g.trans k2.g)⟩

/-! ### what is walked -/
structure WkD (C : Fc) (G : Hp) (J : It) (ds : List D) : Prop where
  w : Walk J ds.length (fun H => Same G H) (fun i H x H' => ∀ G1, Same G G1 → Same G1 H → (∀ b ps, G1 b ≠ some (.tbl ps)) → ∃ G2, Grow G1 H G2 H' ∧ ∃ d, ds[i]? = some d ∧ Rp C.K G2 x d)
def kI (C : Fc) (E : XK) (x : AR) (r : DEnv) (ad : Nat → Addr) (σ : L2.St) (G H : Hp) (R : It → Hp → Prop) : Prop :=
  match x with
  | .ok l r' => ∀ J G' H', Stt C r' ad σ G' H' → Kp C r r' ad G H G' H' → WkD C G' J l → R J H'
  | .exc c fs => kX C E c fs
  | .bad => False
def tI (C : Fc) (E : XK) (m : MA) : TI := fun σ H R => ∃ r ad G, Stt C r ad σ G H ∧ kI C E (m r) r ad σ G H R
theorem PI.imp {tg it : Expr} {t t' : TI} (h : PI X tg it t) (i : ∀ σ H R, t' σ H R → t σ H R) : PI X tg it t' := ⟨fun pins s σ H R I q => h.run pins s σ H R I (i _ _ _ q)⟩
theorem Grow.refl2 {G H : Hp} (sub : Same G H) (gnt : ∀ b ps, G b ≠ some (.tbl ps)) : Grow G H G H := ⟨Same.refl _, Same.refl _, sub, gnt, fun _ _ z => z⟩
theorem wk_list {G : Hp} {a : Addr} {xs : List V} {l : List D} (h : G a = some (.lst xs)) (p : RpL C.K G xs l) : WkD C G (Itl C.K a) l := by
  refine ⟨?_⟩
  rw [← p.length]
  refine Walk.mono walk_list (fun H q => SqL.of (q _ _ h)) fun i H x H' hi q y => ?_
  obtain ⟨rfl, e⟩ := y
  intro G1 g1 s1 n1
  have hi' : i < l.length := by rw [← p.length]; exact hi
  obtain ⟨v, e1, e2⟩ := p.get (i := i) (d := l[i]) (by simp [hi'])
  rw [e] at e1; cases e1
  exact ⟨G1, Grow.refl2 s1 n1, l[i], by simp [hi'], e2.up g1⟩
theorem wk_tup {G : Hp} {a : Addr} {xs : List V} {l : List D} (h : SqT C.K G a xs) (p : RpL C.K G xs l) : WkD C G (Itt C.K a) l := by
  refine ⟨?_⟩
  rw [← p.length]
  refine Walk.mono walk_tup (fun H q => SqT_same q h) fun i H x H' hi q y => ?_
  obtain ⟨rfl, e⟩ := y
  intro G1 g1 s1 n1
  have hi' : i < l.length := by rw [← p.length]; exact hi
  obtain ⟨v, e1, e2⟩ := p.get (i := i) (d := l[i]) (by simp [hi'])
  rw [e] at e1; cases e1
  exact ⟨G1, Grow.refl2 s1 n1, l[i], by simp [hi'], e2.up g1⟩
def mSeq (m : ME) : MA := fun r => match m r with
  | .ok (.lst l) r1 => .ok l r1
  | .ok (.tup l) r1 => .ok l r1
  | .ok (.cst l) r1 => .ok l r1
  | .exc c fs => .exc c fs
  | _ => .bad
theorem i_seq {tg e : Expr} {m : ME} (h : PE X e (tE C E m)) (hK : C.K = X.K := by rfl) : PI X tg e (tI C E (mSeq m)) := by
  refine ⟨fun pins s σ H R I hh => ?_⟩
  obtain ⟨r, ad, G, st, k⟩ := hh
  unfold mSeq at k
  unfold kI at k
  cases e1 : m r with
  | bad => rw [e1] at k; exact k.elim
  | exc c fs => rw [e1] at k; exact (pi_list h).run pins s σ H R I ⟨r, ad, G, st, by unfold kE; rw [e1]; exact k⟩
  | ok d r1 =>
    rw [e1] at k
    cases d with
    | lst l =>
      refine (pi_list h).run pins s σ H R I ⟨r, ad, G, st, ?_⟩
      unfold kE
      rw [e1]
      intro v G1 H1 s1 k1 p1
      cases p1 with
      | lst hs hp => exact ⟨_, rfl, ⟨_, SqL.of (s1.hst.sub _ _ hs)⟩, by rw [← hK]; exact k _ G1 H1 s1 k1 (wk_list hs hp)⟩
    | tup l =>
      refine (pi_tup h).run pins s σ H R I ⟨r, ad, G, st, ?_⟩
      unfold kE
      rw [e1]
      intro v G1 H1 s1 k1 p1
      cases p1 with
      | tup hs hp => exact ⟨_, rfl, ⟨_, SqT.of (s1.hst.sub _ _ hs)⟩, by rw [← hK]; exact k _ G1 H1 s1 k1 (wk_tup (SqT.of hs) hp)⟩
    | cst l =>
      refine (pi_tup h).run pins s σ H R I ⟨r, ad, G, st, ?_⟩
      unfold kE
      rw [e1]
      intro v G1 H1 s1 k1 p1
      cases p1 with
      | cst hs hp => exact ⟨_, rfl, ⟨_, by rw [← hK]; exact SqT_same s1.hst.sub hs⟩, by rw [← hK]; exact k _ G1 H1 s1 k1 (wk_tup hs hp)⟩
    | _ => exact k.elim

/-! ### for -/
def forL (g : GD) (b : MS) : List D → DEnv → SR
  | [], r => .nx r
  | d :: l, r => match g d r with
    | none => .bad
    | some r1 => match b r1 with
      | .nx r2 => forL g b l r2
      | .ct r2 => forL g b l r2
      | .bk r2 => .nx r2
      | x => x
def sFor (it : MA) (g : GD) (b : MS) : MS := fun r => match it r with
  | .ok l r1 => forL g b l r1
  | .exc c fs => .exc c fs
  | .bad => .bad
theorem s_for {tg iter : Expr} {body : List Stmt} {it : MA} {g : GD} {b : MS} (hp : PassesOwn (model X.prog X.w) X.A X.env X.xe) (hi : PI X tg iter (tI C E it)) (hg : PG X tg (tGt C g)) (hb : PSs X body (tS C E b)) (hc : X.calm = true := by rfl)
    (hs : ∀ x, foldedSetIterable iter X.env x = pure x := by intro _; rfl) : PS X (.For tg iter body [] pos) (tS C E (sFor it g b)) := by
  refine PS.imp (ps_for hp hc hi hg hb hs) fun Dn σ H ⟨r, ad, G, s, k⟩ => ⟨r, ad, G, s, ?_⟩
  unfold sFor at k
  unfold kI
  cases e : it r with
  | bad => rw [e] at k; exact k
  | exc c fs => rw [e] at k; exact k
  | ok l r1 =>
    rw [e] at k
    simp only at k
    intro J G1 H1 s1 k1 w
    refine for_it w.w (fun i σ2 H2 => ∃ r2 ad2 G2, Stt C r2 ad2 σ2 G2 H2 ∧ Same G1 G2 ∧ kS C E (forL g b (l.drop i) r2) G2 Dn) ⟨r1, ad, G1, s1, Same.refl _, kS_up k k1.g⟩ (fun i σ2 H2 hi ⟨r2, ad2, G2, s2, g2, _⟩ => g2.trans s2.hst.sub) ?_ ?_
    · rintro i x σ2 H2 H3 hi ⟨r2, ad2, G2, s2, g2, k2⟩ y
      obtain ⟨G3, gr, d, ed, pd⟩ := y G2 g2 s2.hst.sub s2.hst.gnt
      have s3 := s2.grow gr
      have dr : l.drop i = d :: l.drop (i + 1) := by
        have hi' : i < l.length := hi
        rw [List.drop_eq_getElem_cons hi']
        congr 1
        have := List.getElem?_eq_getElem hi'
        rw [this] at ed
        exact Option.some.inj ed
      rw [dr] at k2
      unfold forL at k2
      cases eg : g d r2 with
      | none => simp only [eg] at k2; exact k2.elim
      | some r4 =>
        simp only [eg] at k2
        refine ⟨r2, ad2, G3, d, s3, pd, r4, eg, fun σ4 G4 H4 s4 k4 => ⟨r4, ad2, G4, s4, ?_⟩⟩
        have g4 : Same G2 G4 := gr.g.trans k4.g
        have step : ∀ {r5 : DEnv}, kS C E (forL g b (l.drop (i + 1)) r5) G2 Dn → ∀ ad5 σ5 G5 H5, Stt C r5 ad5 σ5 G5 H5 → Same G4 G5 → ∃ r2 ad2 G2, Stt C r2 ad2 σ5 G2 H5 ∧ Same G1 G2 ∧ kS C E (forL g b (l.drop (i + 1)) r2) G2 Dn :=
          fun {r5} kk ad5 σ5 G5 H5 s5 g5 => ⟨r5, ad5, G5, s5, g2.trans (g4.trans g5), kS_up kk (g4.trans g5)⟩
        cases eb : b r4 with
        | nx r5 => simp only [eb] at k2; exact fun ad5 σ5 G5 H5 s5 g5 => step k2 ad5 σ5 G5 H5 s5 g5
        | ct r5 => simp only [eb] at k2; exact fun ad5 σ5 G5 H5 s5 g5 => step k2 ad5 σ5 G5 H5 s5 g5
        | bk r5 => simp only [eb] at k2; exact fun ad5 σ5 G5 H5 s5 g5 => k2 ad5 σ5 G5 H5 s5 (g4.trans g5)
        | rt d r5 => simp only [eb] at k2; exact k2
        | rtO l r5 => simp only [eb] at k2; exact k2
        | exc c fs => simp only [eb] at k2; exact k2
        | bad => simp only [eb] at k2; exact k2
    · rintro σ2 H2 ⟨r2, ad2, G2, s2, g2, k2⟩
      rw [List.drop_length] at k2
      exact k2 ad2 σ2 G2 H2 s2 (Same.refl _)
end
end DL

/-! Comprehensions, stores, calls, defs. -/
namespace DL
open PySem PySem.Spec PyProof.Rows L2

/-! ### comprehensions -/
def wipeR (r : DEnv) : List Nat → DEnv
  | [] => r
  | v :: vs => (wipeR r vs).set v .un
theorem wipeR_length (r : DEnv) : ∀ vs, (wipeR r vs).length = r.length
  | [] => rfl
  | v :: vs => by unfold wipeR; rw [List.length_set, wipeR_length r vs]
theorem wipeR_some {r : DEnv} {i : Nat} {x : Sl} : ∀ {vs : List Nat}, (wipeR r vs)[i]? = some x → (i ∈ vs ∧ x = .un) ∨ (i ∉ vs ∧ r[i]? = some x)
  | [], h => .inr ⟨by simp, h⟩
  | v :: vs, h => by
    unfold wipeR at h
    rcases get_set h with ⟨e, ex, _⟩ | ⟨n, h⟩
    · exact .inl ⟨by rw [e]; exact List.mem_cons_self, ex⟩
    · rcases wipeR_some h with ⟨a, b⟩ | ⟨a, b⟩
      · exact .inl ⟨List.mem_cons_of_mem _ a, b⟩
      · exact .inr ⟨by simp [n, a], b⟩
theorem own_wipe {r : DEnv} {i : Nat} {vs : List Nat} (h : isOwn (wipeR r vs) i) : i ∉ vs ∧ isOwn r i := by
  rcases h with ⟨k, l, h⟩ | ⟨t, l, h⟩
  · rcases wipeR_some h with ⟨_, e⟩ | ⟨n, e⟩
    · cases e
    · exact ⟨n, .inl ⟨k, l, e⟩⟩
  · rcases wipeR_some h with ⟨_, e⟩ | ⟨n, e⟩
    · cases e
    · exact ⟨n, .inr ⟨t, l, e⟩⟩
section
variable {C : Fc} {r : DEnv} {ad : Nat → Addr} {σ σ' : L2.St} {G H : Hp}
/-- slots outside of vs are the same -/
theorem Stt.wipe (s : Stt C r ad σ G H) {vs : List Nat} (hl : σ'.length = σ.length) (he : ∀ i, i ∉ vs → σ'[i]? = σ[i]?) : Stt C (wipeR r vs) ad σ' G H := by
  refine ⟨s.hst, by rw [wipeR_length, hl]; exact s.len, fun i d e => ?_, fun i k l e => ?_, fun i t l e => ?_, fun i j a b => s.inj i j (own_wipe a).2 (own_wipe b).2⟩
  · rcases wipeR_some e with ⟨_, e⟩ | ⟨n, e⟩
    · cases e
    · obtain ⟨v, h1, h2⟩ := s.dat i d e
      exact ⟨v, by rw [he i n]; exact h1, h2⟩
  · rcases wipeR_some e with ⟨_, e⟩ | ⟨n, e⟩
    · cases e
    · obtain ⟨h1, h2⟩ := s.own i k l e
      exact ⟨by rw [he i n]; exact h1, h2⟩
  · rcases wipeR_some e with ⟨_, e⟩ | ⟨n, e⟩
    · cases e
    · obtain ⟨h1, h2⟩ := s.ownD i t l e
      exact ⟨by rw [he i n]; exact h1, h2⟩
theorem wipe_eq_out {vs : List Nat} (h : L2.wipe σ' vs = L2.wipe σ vs) {i : Nat} (n : i ∉ vs) : σ'[i]? = σ[i]? := by
  rw [← wipe_out (σ := σ') n, h, wipe_out n]
theorem wipe_eq_len {vs : List Nat} (h : L2.wipe σ' vs = L2.wipe σ vs) : σ'.length = σ.length := by
  rw [← wipe_length σ' vs, h, wipe_length]
end
/-- a target that stores to the slots vs alone -/
def tGk (vs : List Nat) (C : Fc) (g : GD) : TG := fun v σ H Q => ∃ r ad G d, Stt C r ad σ G H ∧ Rp C.K G v d ∧ ∃ r', g d r = some r' ∧ ∀ σ' G' H', L2.wipe σ' vs = L2.wipe σ vs → Stt C r' ad σ' G' H' → Kp C r r' ad G H G' H' → Q σ' H'
def tGks (vs : List Nat) (C : Fc) (g : List D → DEnv → Option DEnv) : TGs := fun v σ H Q => ∃ r ad G d, Stt C r ad σ G H ∧ RpL C.K G v d ∧ ∃ r', g d r = some r' ∧ ∀ σ' G' H', L2.wipe σ' vs = L2.wipe σ vs → Stt C r' ad σ' G' H' → Kp C r r' ad G H G' H' → Q σ' H'
structure GOk (vs : List Nat) (X : Cx) (C : Fc) (tg : Expr) (g : GD) : Prop where
  run : PG X tg (tGk vs C g)
structure GsOk (vs : List Nat) (X : Cx) (C : Fc) (tg : List Expr) (g : List D → DEnv → Option DEnv) : Prop where
  run : PGs X tg (tGks vs C g)
theorem wipe_set {σ : L2.St} {i : Nat} {x : Option V} : ∀ {vs : List Nat}, i ∈ vs → L2.wipe (σ.set i x) vs = L2.wipe σ vs
  | [], h => by cases h
  | v :: vs, h => by
    unfold L2.wipe
    by_cases hm : i ∈ vs
    · rw [wipe_set hm]
    · have e : i = v := by
        rcases List.mem_cons.mp h with z | z
        · exact z
        · exact absurd z hm
      subst e
      apply List.ext_getElem?
      intro j
      by_cases hj : j = i
      · subst hj
        rw [List.getElem?_set, List.getElem?_set, wipe_length, wipe_length, List.length_set, if_pos rfl, if_pos rfl]
      · rw [set_no hj, set_no hj]
        by_cases hv : j ∈ vs
        · have hl : ∀ τ : L2.St, j ∈ vs → (L2.wipe τ vs)[j]? = if j < τ.length then some none else none := by
            intro τ hv
            have : ∀ (ws : List Nat), j ∈ ws → (L2.wipe τ ws)[j]? = if j < τ.length then some none else none := by
              intro ws
              induction ws with
              | nil => intro h; cases h
              | cons w ws ih =>
                intro h
                unfold L2.wipe
                rw [List.getElem?_set]
                by_cases hw : w = j
                · rw [if_pos hw, wipe_length, hw]
                · rw [if_neg hw]
                  rcases List.mem_cons.mp h with z | z
                  · exact absurd z.symm hw
                  · exact ih z
            exact this vs hv
          rw [hl _ hv, hl _ hv, List.length_set]
        · rw [wipe_out hv, wipe_out hv, set_no hj]
section
variable {X : Cx} {C : Fc} {E : XK} {pos : Pos} {vs : List Nat}
theorem gk_n {i : Nat} {x : Str} (hN : X.N.Nodup) (hv : i ∈ vs := by decide) (hi : X.N[i]? = some x := by rfl) (hx : Loc X.env.scope x := by first | exact Or.inl rfl | exact Or.inr rfl) (hf : X.fn x = true ∨ X.env.scope.names.lookup x = some .local := by first | exact .inl rfl | exact .inr rfl | assumption) :
    GOk vs X C (.Name x pos) (gN i) := by
  refine ⟨⟨fun pins s σ H v u Q I rv h => (pg_name hN hi hx hf).run pins s σ H v u Q I rv ?_⟩⟩
  obtain ⟨r, ad, G, d, st, p, r', e, k⟩ := h
  cases e
  exact k _ G H (wipe_set hv) (st.setD p) kp_setD
theorem gks_nil : GsOk vs X C [] gsNil := by
  refine ⟨⟨fun pins s σ H vs us Q I rv h => pgs_nil.run pins s σ H vs us Q I rv ?_⟩⟩
  obtain ⟨r, ad, G, ds, st, p, r', e, k⟩ := h
  cases p with
  | nil =>
    cases e
    exact ⟨rfl, k _ G H rfl st (Kp.refl _ _ _ _ _)⟩
  | cons _ _ => cases e
theorem gks_cons {e : Expr} {es : List Expr} {g : GD} {gs : List D → DEnv → Option DEnv} (h1 : GOk vs X C e g) (h2 : GsOk vs X C es gs)
    (hs : (assignEach (e :: es) X.env).map (·.2) = assign e X.env :: (assignEach es X.env).map (·.2) := by rfl) : GsOk vs X C (e :: es) (gsCons g gs) := by
  refine ⟨⟨fun pins s σ H us ws Q I rv h => (pgs_cons h1.run h2.run hs).run pins s σ H us ws Q I rv ?_⟩⟩
  obtain ⟨r, ad, G, ds, st, p, r', e, k⟩ := h
  cases p with
  | nil => cases e
  | cons p1 p2 =>
    rename_i v vs' d ds
    unfold gsCons at e
    simp only at e
    cases eg : g d r with
    | none => rw [eg] at e; cases e
    | some r1 =>
      rw [eg] at e
      refine ⟨v, vs', rfl, r, ad, G, d, st, p1, r1, eg, fun σ1 G1 H1 w1 s1 k1 => ?_⟩
      exact ⟨r1, ad, G1, ds, s1, p2.up k1.g, r', e, fun σ2 G2 H2 w2 s2 k2 => k σ2 G2 H2 (w2.trans w1) s2 (k1.trans k2)⟩
theorem gk_tup {es : List Expr} {kk : Nat} {gs : List D → DEnv → Option DEnv} {n : Nat} (h : GsOk vs X C es gs) (hK : C.K = X.K := by rfl) (hc : X.calm = true := by rfl)
    (hn : (assignEach es X.env).length = n := by rfl) (hst : (assignEach es X.env).findIdx? (·.1) = none := by rfl) : GOk vs X C (.Tuple es kk pos) (gTup2 n gs) := by
  refine ⟨⟨fun pins s σ H v u Q I rv h0 => ?_⟩⟩
  obtain ⟨r, ad, G, d, st, p, r', e, k⟩ := h0
  unfold gTup2 at e
  cases d <;> first | (cases e; done) | skip
  · rename_i l
    simp only at e
    split at e
    · rename_i hl
      cases p with
      | tup hs hp =>
        refine (pg_tup hc h.run hn hst).run pins s σ H _ u Q I rv ⟨_, _, rfl, SqT.of (st.hst.sub _ _ hs), hp.length.trans hl, r, ad, G, l, st, hp, r', e, k⟩
    · cases e
  · rename_i l
    simp only at e
    split at e
    · rename_i hl
      cases p with
      | lst hs hp =>
        refine (pg_unl hc h.run hn hst).run pins s σ H _ u Q I rv ⟨_, _, rfl, SqL.of (st.hst.sub _ _ hs), hp.length.trans hl, r, ad, G, l, st, hp, r', e, k⟩
    · cases e
end
/-- one turn after another: what is made, the slots -/
def lcL (g : GD) (c e : ME) (vs : List Nat) : List D → DEnv → AR
  | [], r => .ok [] r
  | d :: l, r => match g d r with
    | none => .bad
    | some r1 => match c r1 with
      | .ok (.bl true) r2 => (match e r2 with
        | .ok x r3 => (match lcL g c e vs l (wipeR r3 vs) with
          | .ok m r4 => .ok (x :: m) r4
          | y => y)
        | _ => .bad)
      | .ok (.bl false) r2 => lcL g c e vs l (wipeR r2 vs)
      | _ => .bad
def mLc (it : MA) (g : GD) (c e : ME) (vs : List Nat) : MA := fun r => match it r with
  | .ok l r1 => (match lcL g c e vs l (wipeR r1 vs) with
    | .ok m r2 => if short m then .ok m r2 else .bad
    | y => y)
  | .exc x fs => .exc x fs
  | .bad => .bad
theorem lcL_len {g : GD} {c e : ME} {vs : List Nat} : ∀ {l : List D} {r r' : DEnv} {m : List D}, lcL g c e vs l r = .ok m r' → m.length ≤ l.length
  | [], r, r', m, h => by cases h; exact Nat.le_refl _
  | d :: l, r, r', m, h => by
    unfold lcL at h
    cases eg : g d r with
    | none => simp only [eg] at h; cases h
    | some r1 =>
      simp only [eg] at h
      cases ec : c r1 with
      | bad => simp only [ec] at h; cases h
      | exc x fs => simp only [ec] at h; cases h
      | ok b r2 =>
        simp only [ec] at h
        cases b with
        | bl b =>
          cases b with
          | true =>
            simp only at h
            cases ee : e r2 with
            | bad => simp only [ee] at h; cases h
            | exc x fs => simp only [ee] at h; cases h
            | ok x r3 =>
              simp only [ee] at h
              cases el : lcL g c e vs l (wipeR r3 vs) with
              | bad => simp only [el] at h; cases h
              | exc x fs => simp only [el] at h; cases h
              | ok m' r4 =>
                simp only [el] at h
                cases h
                have := lcL_len el
                simp only [List.length_cons]
                omega
          | false =>
            simp only at h
            have := lcL_len h
            simp only [List.length_cons]
            omega
        | _ => simp only at h; cases h
theorem kX_E0 {C : Fc} {c : Str} {fs : List (Str × D)} {G H : Hp} : True := trivial
section
variable {X : Cx} {C : Fc} {E : XK} {pos : Pos}
def mYes : ME := fun r => .ok (.bl true) r
theorem c_yes {Y : Cx} : PTs Y [] (tT C E0 mYes) := ⟨fun pins s σ H Q I h => pts_nil.run pins s σ H Q I (by
  obtain ⟨r, ad, G, st, b, e, k⟩ := h
  cases e
  exact k G H st (Kp.refl _ _ _ _ _))⟩
theorem c_one {Y : Cx} {c : Expr} {m : ME} (h : PT Y c (tT C E0 m)) : PTs Y [c] (tT C E0 m) := pts_one h
/-- in a block an exception is not awaited: kX of E0 at a state that stands is refuted by the meaning (.bad there) -/
theorem o_lc {elt tg iter : Expr} {ifs : List Expr} {scope : Scope} {own : List (Str × Nat)} {it : MA} {g : GD} {mc me : ME} (hN : X.N.Nodup) (hi : PI X tg iter (tI C E it)) (ok : BlkOk X.N X.env.scope scope own)
    (hg : ∀ (s : Shared) (H : Hp) (A : Addr) (cl : List (Str × Addr)) (fp : List Addr), GOk (own.map (·.2)) (X.blk s H scope (compEnvC scope cl A X.env) fp) C tg g)
    (ht : ∀ (s : Shared) (H : Hp) (A : Addr) (cl : List (Str × Addr)) (fp : List Addr), PTs (X.blk s H scope (compEnvC scope cl A X.env) fp) ifs (tT C E0 mc))
    (he : ∀ (s : Shared) (H : Hp) (A : Addr) (cl : List (Str × Addr)) (fp : List Addr), PE (X.blk s H scope (compEnvC scope cl A X.env) fp) elt (tE C E0 me))
    (hc : X.calm = true := by rfl) (hs : ∀ x, foldedSetIterable iter X.env x = pure x := by intro _; rfl) :
    PE X (.ListComp elt [⟨tg, iter, ifs, 0⟩] scope pos) (tO C E (mLc it g mc me (own.map (·.2)))) := by
  refine PE.imp (pe_lc hc hN hi ok (fun s H A cl fp => (hg s H A cl fp).run) ht he hs) fun σ H Q ⟨r, ad, G, s, k⟩ => ⟨r, ad, G, s, ?_⟩
  generalize own.map (·.2) = vs at k ⊢
  unfold mLc at k
  unfold kI
  cases e : it r with
  | bad => rw [e] at k; exact k
  | exc c fs => rw [e] at k; exact k
  | ok l r1 =>
    rw [e] at k
    simp only at k
    intro J G1 H1 s1 k1 w D0 hD
    have nD : H D0 = none := by
      cases q : H D0 with
      | none => rfl
      | some o => exact absurd hD (k1.dom D0 (by rw [q]; simp))
    -- the state before a turn: slots outside of vs as σ says, the new list at D0
    cases el : lcL g mc me vs l (wipeR r1 vs) with
    | bad => rw [el] at k; exact k.elim
    | exc c fs =>
      -- never: lcL gives no exc
      exfalso
      have noexc : ∀ (l : List D) (r : DEnv) c fs, lcL g mc me vs l r ≠ .exc c fs := by
        intro l
        induction l with
        | nil => intro r c fs h; cases h
        | cons d l ih =>
          intro r c fs h
          unfold lcL at h
          cases eg : g d r with
          | none => simp only [eg] at h; cases h
          | some r1 =>
            simp only [eg] at h
            cases ec : mc r1 with
            | bad => simp only [ec] at h; cases h
            | exc x fs => simp only [ec] at h; cases h
            | ok b r2 =>
              simp only [ec] at h
              cases b with
              | bl b =>
                cases b with
                | true =>
                  simp only at h
                  cases ee : me r2 with
                  | bad => simp only [ee] at h; cases h
                  | exc x fs => simp only [ee] at h; cases h
                  | ok x r3 =>
                    simp only [ee] at h
                    cases el : lcL g mc me vs l (wipeR r3 vs) with
                    | bad => simp only [el] at h; cases h
                    | exc x' fs' => exact ih _ _ _ el
                    | ok m' r4 => simp only [el] at h; cases h
                | false =>
                  simp only at h
                  exact ih _ _ _ h
              | _ => simp only at h; cases h
      exact noexc _ _ _ _ el
    | ok m rz =>
      rw [el] at k
      simp only at k
      split at k
      · rename_i hsh
        have hm : m.length ≤ 16777216 := of_decide_eq_true hsh
        refine lc_it (g := tGk vs C g) (tt := tT C E0 mc) (te := tE C E0 me) (vs := vs) (σ := σ) (H1 := H1) (D := D0) (Qd := fun H => Q (.ref D0) H) w.w (fun i H2 => ∃ r2 G2 acc ds m2, Stt C r2 ad (L2.wipe σ vs) G2 H2 ∧ Kp C r r2 ad G H G2 H2 ∧ Same G1 G2 ∧ H2 D0 = some (.lst acc) ∧ G2 D0 = none ∧ RpL C.K G2 acc ds ∧ lcL g mc me vs (l.drop i) r2 = .ok m2 rz ∧ m = ds ++ m2) ?_ ?_ ?_ ?_
        · have gr : Grow G1 H1 G1 (upd H1 D0 (.lst [])) := Grow.layH s1.hst.sub s1.hst.gnt hD
          have s2 := s1.grow gr
          have s3 := s2.wipe (σ' := L2.wipe σ vs) (vs := vs) (wipe_length _ _) (fun i n => wipe_out n)
          refine ⟨_, G1, [], [], m, s3, (k1.trans (Kp.grow gr)).trans ⟨Same.refl _, fun j h => (own_wipe h).2, fun _ z => z, fun _ z => z, fun _ _ z _ _ => z, fun _ _ z _ => z⟩, Same.refl _, upd_same, s1.hst.sub.free hD, .nil, el, rfl⟩
        · rintro i H2 hi ⟨r2, G2, acc, ds, m2, s2, k2, g2, _⟩
          exact g2.trans s2.hst.sub
        · rintro i x H2 H3 hi ⟨r2, G2, acc, ds, m2, s2, k2, g2, hD2, hG2, p2, el2, em⟩ y
          obtain ⟨G3, gr, d, ed, pd⟩ := y G2 g2 s2.hst.sub s2.hst.gnt
          have s3 := s2.grow gr
          have hD3 : H3 D0 = some (.lst acc) := gr.h _ _ hD2
          have hG3 : G3 D0 = none := gr.nofz D0 (wr_lst hD2) hG2
          have dr : l.drop i = d :: l.drop (i + 1) := by
            have hi' : i < l.length := hi
            rw [List.drop_eq_getElem_cons hi']
            congr 1
            have := List.getElem?_eq_getElem hi'
            rw [this] at ed
            exact Option.some.inj ed
          rw [dr] at el2
          unfold lcL at el2
          have nown : ∀ j, isOwn r2 j → D0 ≠ ad j := fun j h z => s.own_ne (k2.o j h) (by rw [← z]; exact nD)
          have ntab : ∀ p ∈ C.T, D0 ≠ p.1 := fun p hp z => by
            obtain ⟨ps, e1, _⟩ := s.hst.tabs p hp
            rw [← z, nD] at e1
            cases e1
          cases eg : g d r2 with
          | none => simp only [eg] at el2; cases el2
          | some r4 =>
            simp only [eg] at el2
            refine ⟨r2, ad, G3, d, s3, pd, r4, eg, fun σ4 G4 H4 w4 s4 k4 => ⟨w4.trans ?_, ?_⟩⟩
            · -- wiping twice
              apply List.ext_getElem?
              intro j
              by_cases hj : j ∈ vs
              · have hl : ∀ τ : L2.St, (L2.wipe τ vs)[j]? = if j < τ.length then some none else none := by
                  intro τ
                  have : ∀ (ws : List Nat), j ∈ ws → (L2.wipe τ ws)[j]? = if j < τ.length then some none else none := by
                    intro ws
                    induction ws with
                    | nil => intro h; cases h
                    | cons w ws ih =>
                      intro h
                      unfold L2.wipe
                      rw [List.getElem?_set]
                      by_cases hw : w = j
                      · rw [if_pos hw, wipe_length, hw]
                      · rw [if_neg hw]
                        rcases List.mem_cons.mp h with z | z
                        · exact absurd z.symm hw
                        · exact ih z
                  exact this vs hj
                rw [hl, hl, wipe_length]
              · rw [wipe_out hj]
            · have k34 : Kp C r r4 ad G H G4 H4 := (k2.trans (Kp.grow gr)).trans k4
              have hD4 : H4 D0 = some (.lst acc) := k4.keep D0 _ hD3 nown ntab
              have hG4 : G4 D0 = none := k4.nofz D0 (wr_lst hD3) hG3 nown
              have wlen : σ4.length = (L2.wipe σ vs).length := by rw [wipe_eq_len w4]
              have wout : ∀ j, j ∉ vs → (L2.wipe σ vs)[j]? = σ4[j]? := fun j n => (wipe_eq_out w4 n).symm
              refine ⟨r4, ad, G4, s4, ?_⟩
              unfold kT
              cases ec : mc r4 with
              | bad => simp only [ec] at el2; cases el2
              | exc x fs => simp only [ec] at el2; cases el2
              | ok bb r5 =>
                simp only [ec] at el2
                cases bb with
                | bl b =>
                  refine ⟨b, rfl, fun G5 H5 s5 k5 => ?_⟩
                  have nown4 : ∀ j, isOwn r4 j → D0 ≠ ad j := fun j h => nown j (k4.o j h)
                  have hD5 : H5 D0 = some (.lst acc) := k5.keep D0 _ hD4 nown4 ntab
                  have hG5 : G5 D0 = none := k5.nofz D0 (wr_lst hD4) hG4 nown4
                  have k45 := k34.trans k5
                  cases b with
                  | false =>
                    simp only at el2
                    refine iteF ⟨wipeR r5 vs, G5, acc, ds, m2, s5.wipe wlen.symm wout, k45.trans ⟨Same.refl _, fun j h => (own_wipe h).2, fun _ z => z, fun _ z => z, fun _ _ z _ _ => z, fun _ _ z _ => z⟩, (g2.trans gr.g).trans (k4.g.trans k5.g), hD5, hG5, p2.up (gr.g.trans (k4.g.trans k5.g)), el2, em⟩
                  | true =>
                    simp only at el2
                    refine iteT ⟨r5, ad, G5, s5, ?_⟩
                    unfold kE
                    cases ee : me r5 with
                    | bad => simp only [ee] at el2; cases el2
                    | exc x fs => simp only [ee] at el2; cases el2
                    | ok xv r6 =>
                      simp only [ee] at el2
                      intro v6 G6 H6 s6 k6 p6
                      have nown5 : ∀ j, isOwn r5 j → D0 ≠ ad j := fun j h => nown4 j (k5.o j h)
                      have hD6 : H6 D0 = some (.lst acc) := k6.keep D0 _ hD5 nown5 ntab
                      have hG6 : G6 D0 = none := k6.nofz D0 (wr_lst hD5) hG5 nown5
                      cases el3 : lcL g mc me vs (l.drop (i + 1)) (wipeR r6 vs) with
                      | bad => simp only [el3] at el2; cases el2
                      | exc x fs => simp only [el3] at el2; cases el2
                      | ok m3 r7 =>
                        simp only [el3] at el2
                        injection el2 with em2 er7
                        subst er7
                        subst em2
                        have p6' : RpL C.K G6 acc ds := p2.up (gr.g.trans (k4.g.trans (k5.g.trans k6.g)))
                        have lacc : acc.length < sizeLine := by
                          rw [p6'.length, sizeLine_eq]
                          have : m.length = ds.length + (xv :: m3).length := by rw [em, List.length_append]
                          simp only [List.length_cons] at this
                          omega
                        refine ⟨acc, hD6, lacc, wipeR r6 vs, G6, acc ++ [v6], ds ++ [xv], m3, ?_, ?_, (g2.trans gr.g).trans (k4.g.trans (k5.g.trans k6.g)), upd_same, hG6, p6'.append (.cons p6 .nil), el3, by rw [em, List.append_assoc]; rfl⟩
                        · have h0 : C.H0 D0 = none := new_H0 s nD
                          have z := s6.wipe (σ' := L2.wipe σ vs) (vs := vs) wlen.symm wout
                          have hst := z.hst.put (a := D0) (o := .lst (acc ++ [v6])) hG6 (.inl h0) (ne_of_some hD6) (fun ps y => by rw [hD6] at y; cases y) (fun c q y => by rw [hD6] at y; cases y)
                          have nw : ∀ j, isOwn (wipeR r6 vs) j → ad j ≠ D0 := fun j h y => nown5 j (k6.o j (own_wipe h).2) y.symm
                          refine ⟨hst, z.len, z.dat, fun j kk l' e' => ?_, fun j t l' e' => ?_, z.inj⟩
                          · obtain ⟨a1, a2, a3, ys, a4, a5⟩ := z.own j kk l' e'
                            exact ⟨a1, a2, a3, ys, by rw [upd_ne (nw j (.inl ⟨kk, l', e'⟩))]; exact a4, a5⟩
                          · obtain ⟨a1, a2, a3, a4⟩ := z.ownD j t l' e'
                            exact ⟨a1, a2, a3, a4.up (Same.refl _) (upd_ne (nw j (.inr ⟨t, l', e'⟩)))⟩
                        · have k66 := k45.trans k6
                          refine ⟨k66.g, fun j h => k66.o j (own_wipe h).2, fun b z => ?_, fun b z => ?_, fun b u z n t => ?_, k66.nofz⟩
                          · by_cases hb : b = D0
                            · rw [hb, upd_same]; simp
                            · rw [upd_ne hb]; exact k66.dom b z
                          · by_cases hb : b = D0
                            · rw [hb, upd_same]; trivial
                            · rw [upd_ne hb]; exact k66.domN b z
                          · rw [upd_ne (ne_of_none z nD)]
                            exact k66.keep b u z n t
                | _ => simp only at el2; cases el2
        · rintro H2 ⟨r2, G2, acc, ds, m2, s2, k2, g2, hD2, hG2, p2, el2, em⟩
          rw [List.drop_length] at el2
          unfold lcL at el2
          injection el2 with e1 e2
          subst e1
          subst e2
          rw [List.append_nil] at em
          subst em
          -- the outer slots again: r2's slots in vs are un or dropped
          have s3 : Stt C r2 ad σ G2 H2 := by
            refine ⟨s2.hst, ?_, fun j d e' => ?_, fun j kk l' e' => ?_, fun j t l' e' => ?_, s2.inj⟩
            · rw [← s2.len, wipe_length]
            · obtain ⟨v, h1, h2⟩ := s2.dat j d e'
              exact ⟨v, (wipe_some h1).1, h2⟩
            · obtain ⟨h1, h2⟩ := s2.own j kk l' e'
              exact ⟨(wipe_some h1).1, h2⟩
            · obtain ⟨h1, h2⟩ := s2.ownD j t l' e'
              exact ⟨(wipe_some h1).1, h2⟩
          exact k D0 acc G2 H2 s3 k2 nD hG2 hD2 p2
      · exact k.elim
end
end DL

/-! Stores, calls, defs. -/
namespace DL
open PySem PySem.Spec PyProof.Rows L2

theorem kp_put {C : Fc} {r : DEnv} {ad : Nat → Addr} {G H : Hp} {i : Nat} {k : Bool} {l l' : List D} {o : HO} (e : r[i]? = some (.own k l)) (hn : H (ad i) ≠ none) (ho : wr (some o)) : Kp C r (r.set i (.own k l')) ad G H G (upd H (ad i) o) := by
  refine ⟨Same.refl _, fun j h => ?_, fun b z => ?_, fun b z => ?_, fun b u z n _ => ?_, fun b z y n => y⟩
  · rcases own_set h with z | z
    · rw [z]; exact .inl ⟨k, l, e⟩
    · exact z
  · by_cases hb : b = ad i
    · rw [hb, upd_same]; simp
    · rw [upd_ne hb]; exact z
  · by_cases hb : b = ad i
    · rw [hb, upd_same]; exact ho
    · rw [upd_ne hb]; exact z
  · rw [upd_ne (n i (.inl ⟨k, l, e⟩))]; exact z
section
variable {X : Cx} {C : Fc} {E : XK} {pos : Pos}
/-! ### x.append(e) -/
def sApp (i : Nat) (m : ME) : MS := fun r => match r[i]? with
  | some (.own _ _) => (match m r with
    | .ok d r1 => (match r1[i]? with
      | some (.own k l) => if l.length < 16777216 then .nx (r1.set i (.own k (l ++ [d]))) else .bad
      | _ => .bad)
    | .exc c fs => .exc c fs
    | .bad => .bad)
  | _ => .bad
theorem s_app {i : Nat} {x : Str} {e : Expr} {m : ME} {p apos cpos : Pos} (he : PE X e (tE C E m)) (hK : C.K = X.K := by rfl) (hN : X.N[i]? = some x := by rfl) (hv : Vis X.env.scope x := by first | exact Or.inl rfl | exact Or.inr (Or.inl rfl) | exact Or.inr (Or.inr rfl))
    (hd : (x == ("__debug__" : Str)) = false := by decide) (hcd : (x == ("__classdict__" : Str)) = false := by decide)
    (hsw : swapsWith (.Call (.Attribute (.Name x p) "append" apos) [e] [] cpos) none pos.line X.env = pure false := by rfl)
    (hbase : attributeBase (.Name x p) "append" X.env (eval (.Name x p) X.env) = eval (.Name x p) X.env := by rfl)
    (hfew : ((backTo cpos (starEach [e] X.env)).all (fun x => !x.1) && (backToKw cpos (keywordEach [] X.env)).all (fun x => x.1.isSome)
      && decide ([e].length + ([] : List Keyword).length + (if ([] : List Keyword).isEmpty then 0 else 1) < 30)) = true := by rfl)
    (hline : (apos.endLine == cpos.line) = true := by rfl) (hs : starEach [e] X.env = (false, eval e X.env) :: starEach [] X.env := by rfl) (hplain : (backTo cpos (starEach [] X.env)).any (·.1) = false := by rfl) :
    PS X (.Expr (.Call (.Attribute (.Name x p) "append" apos) [e] [] cpos) pos) (tS C E (sApp i m)) := by
  refine PS.imp (ps_expr (pe_bm PySem.F.plainAttrs_list PySem.F.slot_list_append PySem.F.type_list_append mt_append (pe_var hN hv hd hcd) (pa_cons he pa_nil hs) hbase hfew hline hs hplain) hsw) fun Dn σ H ⟨r, ad, G, s, k⟩ => ?_
  unfold sApp at k
  split at k
  · rename_i k0 l0 e0
    obtain ⟨h1, _, _, xs0, h4, _⟩ := s.own i k0 l0 e0
    refine ⟨_, h1, .inl ⟨rfl, xs0, SqL.of h4⟩, r, ad, G, s, ?_⟩
    unfold kE
    cases em : m r with
    | bad => simp only [em] at k; exact k.elim
    | exc c fs => simp only [em] at k; exact k
    | ok d r1 =>
      simp only [em] at k
      intro v G1 H1 s1 k1 p1
      split at k
      · rename_i kk l el
        split at k
        · rename_i hl
          obtain ⟨z1, z2, z3, xs, z4, z5⟩ := s1.own i kk l el
          refine ⟨_, xs, v, rfl, rfl, z4, by rw [z5.length, sizeLine_eq]; exact hl, ?_⟩
          exact k ad σ G1 _ (s1.putO el (z5.append (.cons p1 .nil))) k1.g
        · exact k.elim
      · exact k.elim
  · exact k.elim
/-! ### x[j] = e -/
def sSetI (i : Nat) (mi m : ME) : MS := fun r => match m r with
  | .ok d r1 => (match r1[i]? with
    | some (.own _ _) => (match mi r1 with
      | .ok (.int j) r2 => (match r2[i]? with
        | some (.own k l) => (match ixN l.length j with
          | some n => .nx (r2.set i (.own k (l.set n d)))
          | none => .bad)
        | _ => .bad)
      | .exc c fs => .exc c fs
      | _ => .bad)
    | _ => .bad)
  | .exc c fs => .exc c fs
  | .bad => .bad
theorem s_setI {i : Nat} {x : Str} {ei e : Expr} {mi m : ME} {p p2 : Pos} (he : PE X e (tE C E m)) (hi : PE X ei (tE C E mi)) (hN : X.N[i]? = some x := by rfl) (hv : Vis X.env.scope x := by first | exact Or.inl rfl | exact Or.inr (Or.inl rfl) | exact Or.inr (Or.inr rfl))
    (hd : (x == ("__debug__" : Str)) = false := by decide) (hcd : (x == ("__classdict__" : Str)) = false := by decide)
    (ha : ∀ v, assign (.Subscript (.Name x p) ei p2) X.env v = (do
      let ov ← holding [v] (eval (.Name x p) X.env)
      let iv ← holding [v, ov] (eval ei X.env)
      standAt p2
      holding [v, ov, iv] (setItem ov iv v)
      release [v, ov, iv] []) := by intro _; rfl)
    (hs : swapsWithSole [.Subscript (.Name x p) ei p2] e pos.line X.env = pure false := by rfl) (hw : swappedStores [.Subscript (.Name x p) ei p2] e X.env = pure none := by rfl)
    (h1 : (assignEach [.Subscript (.Name x p) ei p2] X.env).map (·.2) = [assign (.Subscript (.Name x p) ei p2) X.env] := by rfl) :
    PS X (.Assign [.Subscript (.Name x p) ei p2] e pos) (tS C E (sSetI i mi m)) := by
  refine PS.imp (ps_asg he (pg_sub (pe_var hN hv hd hcd) hi set_list ha) hs hw h1) fun Dn σ H ⟨r, ad, G, s, k⟩ => ⟨r, ad, G, s, ?_⟩
  unfold sSetI at k
  unfold kE
  cases em : m r with
  | bad => simp only [em] at k; exact k.elim
  | exc c fs => simp only [em] at k; exact k
  | ok d r1 =>
    simp only [em] at k
    intro v G1 H1 s1 k1 p1
    split at k
    · rename_i k0 l0 e0
      obtain ⟨z1, _⟩ := s1.own i k0 l0 e0
      refine ⟨_, z1, r1, ad, G1, s1, ?_⟩
      unfold kE
      cases ei : mi r1 with
      | bad => simp only [ei] at k; exact k.elim
      | exc c fs => simp only [ei] at k; exact k
      | ok dj r2 =>
        simp only [ei] at k
        cases dj with
        | int j =>
          intro vj G2 H2 s2 k2 p2
          simp only at k
          split at k
          · rename_i kk l el
            split at k
            · rename_i n en
              obtain ⟨y1, y2, y3, xs, y4, y5⟩ := s2.own i kk l el
              exact ⟨_, xs, j, n, rfl, rp_int p2, y4, by rw [y5.length]; exact en, k ad σ G2 _ (s2.putO el (RpL.set (p1.up k2.g) n y5)) (k1.g.trans k2.g)⟩
            · exact k.elim
          · exact k.elim
        | _ => exact k.elim
    · exact k.elim
/-! ### x[j] of a list held alone -/
def mIxO (i : Nat) (mi : ME) : ME := fun r => match r[i]? with
  | some (.own _ _) => (match mi r with
    | .ok (.int j) r1 => (match r1[i]? with
      | some (.own _ l) => optE (atI l j) r1
      | _ => .bad)
    | .exc c fs => .exc c fs
    | _ => .bad)
  | _ => .bad
theorem e_ixO {i : Nat} {x : Str} {ei : Expr} {mi : ME} {p : Pos} (hi : PE X ei (tE C E mi)) (hK : C.K = X.K := by rfl) (hs : PlainIx ei := by exact fun _ _ => rfl) (hN : X.N[i]? = some x := by rfl) (hv : Vis X.env.scope x := by first | exact Or.inl rfl | exact Or.inr (Or.inl rfl) | exact Or.inr (Or.inr rfl))
    (hd : (x == ("__debug__" : Str)) = false := by decide) (hcd : (x == ("__classdict__" : Str)) = false := by decide) : PE X (.Subscript (.Name x p) ei pos) (tE C E (mIxO i mi)) := by
  refine PE.imp (pe_ix ix_list (pe_var hN hv hd hcd) hi hs) fun σ H Q ⟨r, ad, G, s, k⟩ => ?_
  unfold mIxO at k
  split at k
  · rename_i k0 l0 e0
    obtain ⟨h1, _⟩ := s.own i k0 l0 e0
    refine ⟨_, h1, r, ad, G, s, ?_⟩
    unfold kE at k ⊢
    cases em : mi r with
    | bad => simp only [em] at k
    | exc c fs => simp only [em] at k; exact k
    | ok d r1 =>
      simp only [em] at k
      cases d with
      | int j =>
        simp only at k
        intro v G1 H1 s1 k1 p1
        split at k
        · rename_i _ _ heq
          split at heq
          · rename_i kk l el
            unfold optE at heq
            split at heq
            · rename_i d' ed
              injection heq with q1 q2
              subst q1
              subst q2
              obtain ⟨z1, z2, z3, xs, z4, z5⟩ := s1.own i kk l el
              obtain ⟨w, w1, w2⟩ := atI_rp z5 ed
              exact ⟨_, xs, j, w, rfl, rp_int p1, SqL.of z4, w1, k w G1 H1 s1 k1 w2⟩
            · cases heq
          · cases heq
        · rename_i heq
          split at heq
          · unfold optE at heq
            split at heq <;> cases heq
          · cases heq
        · exact k.elim
      | _ => exact k.elim
  · exact k.elim

/-! ### defs -/
inductive FR where
  | ok (d : D)
  | own (l : List D)
  | exc (c : Str) (fs : List (Str × D))
  | bad
def spF (K : PySem.W.Frag) (cls : Str → Addr) (F : List D → FR) : Sp := fun vs H Q E => ∃ G ds, Same G H ∧ (∀ b ps, G b ≠ some (.tbl ps)) ∧ RpL K G vs ds ∧
  match F ds with
  | .ok d => ∀ v G' H', Grow G H G' H' → Rp K G' v d → Q v H'
  | .own l => ∀ p xs G' H', Grow G H G' H' → H p = none → G' p = none → H' p = some (.lst xs) → RpL K G' xs l → Q (.ref p) H'
  | .exc c fs => ∀ dd fv G' H', Grow G H G' H' → H' dd = some (.xd fv) → RpF K G' fv fs → E (.ref (cls c)) (some dd) H'
  | .bad => False
def runF (M : MS) (n k : Nat) (ds : List D) : FR := if ds.length = n then (match M (ds.map .dat ++ List.replicate k .un) with
  | .rt d _ => .ok d
  | .nx _ => .ok .non
  | .rtO l _ => .own l
  | .exc c fs => .exc c fs
  | _ => .bad) else .bad
abbrev fc0 (K : PySem.W.Frag) (cls : Str → Addr) (G H : Hp) : Fc := ⟨K, cls, G, H, [], []⟩
theorem Hst.grow0 {K : PySem.W.Frag} {cls : Str → Addr} {G H G' H' : Hp} (s : Hst (fc0 K cls G H) G' H') : Grow G H G' H' :=
  ⟨s.g0, fun b o e => s.keep b o e (by simp) (fun p hp => by cases hp), s.sub, s.gnt, s.nofz⟩
theorem start_get {N : List Str} {vs : List V} {i : Nat} {v : V} (h : vs[i]? = some v) : (L2.start N vs)[i]? = some (some v) := by
  unfold L2.start
  rw [List.getElem?_append_left (by simpa using lt_of_get h), List.getElem?_map, h]
  rfl
theorem stt_start {C : Fc} {N : List Str} {G H : Hp} {vs : List V} {ds : List D} (hs : Hst C G H) (p : RpL C.K G vs ds) (hn : ds.length ≤ N.length) : Stt C (ds.map .dat ++ List.replicate (N.length - ds.length) .un) (fun _ => 0) (L2.start N vs) G H := by
  have at_ : ∀ (i : Nat) (x : Sl), (ds.map Sl.dat ++ List.replicate (N.length - ds.length) Sl.un)[i]? = some x → (∃ d, x = .dat d ∧ ds[i]? = some d) ∨ x = .un := by
    intro i x h
    by_cases hi : i < ds.length
    · rw [List.getElem?_append_left (by simpa using hi), List.getElem?_map] at h
      cases e : ds[i]? with
      | none => rw [e] at h; cases h
      | some d => rw [e] at h; cases h; exact .inl ⟨d, rfl, rfl⟩
    · rw [List.getElem?_append_right (by simpa using hi), List.getElem?_replicate] at h
      split at h
      · cases h; exact .inr rfl
      · cases h
  have no : ∀ i, ¬ isOwn (ds.map Sl.dat ++ List.replicate (N.length - ds.length) Sl.un) i := by
    intro i h
    rcases h with ⟨k, l, h⟩ | ⟨t, l, h⟩ <;> rcases at_ i _ h with ⟨d, e, _⟩ | e <;> cases e
  refine ⟨hs, ?_, fun i d h => ?_, fun i k l h => absurd (.inl ⟨k, l, h⟩) (no i), fun i t l h => absurd (.inr ⟨t, l, h⟩) (no i), fun i j h => absurd h (no i)⟩
  · unfold L2.start
    have := p.length
    simp only [List.length_append, List.length_map, List.length_replicate]
    omega
  · rcases at_ i _ h with ⟨d', e, h'⟩ | e
    · cases e
      obtain ⟨v, e1, e2⟩ := p.get h'
      exact ⟨v, start_get e1, e2⟩
    · cases e
section
variable {P : Program} {w : World} {K : PySem.W.Frag} {mg : Str → Option Value} {base : Heap} {cls : Str → Addr}
theorem fnF {x qual : Str} {st : Stmt} {f : Addr} {fd : FuncData} {N ps : List Str} {k : Nat} {M : MS} (F : Fun K x qual st f fd) (S : FnScope N ps (defScope st))
    (hbody : ∀ (cdv : Value) (A : Around) (outer : List Env) (s : Shared) (H G : Hp) (E : XK), Room k (A.deeper (envOfC qual (defScope st) s.heap.objs.size f cdv)) →
      PSs (cxOf (L2.CX P w) P w K mg base N qual (defScope st) f cdv A outer s H E) (defBody st) (tS (fc0 K cls G H) E M)) :
    FnOk P w K mg base (L2.CX P w) (k + 1) f fd ps (spF K cls (runF M ps.length (N.length - ps.length))) := by
  have hpl : ps.length ≤ N.length := by have := congrArg List.length S.pre; rw [List.length_take] at this; omega
  refine F.okX S (fun vs H Q E h => ?_) (fun cdv A outer s H vs Q E hr h => ?_)
  · obtain ⟨G, ds, _, _, p, h⟩ := h
    rw [p.length]
    unfold runF at h
    by_cases e : ds.length = ps.length
    · exact e
    · rw [if_neg e] at h; exact h.elim
  · obtain ⟨G, ds, sub, gnt, p, h⟩ := h
    refine ⟨_, hbody cdv A outer s H G E hr, ?_⟩
    have hl : ds.length = ps.length := by
      unfold runF at h
      by_cases e : ds.length = ps.length
      · exact e
      · rw [if_neg e] at h; exact h.elim
    have hst : Hst (fc0 K cls G H) G H := ⟨sub, gnt, Same.refl _, fun _ z => z, fun _ z => z, fun _ _ z _ _ => z, fun _ _ z => z, fun p hp => by cases hp⟩
    have st := stt_start (C := fc0 K cls G H) (N := N) hst p (by rw [hl]; exact hpl)
    refine ⟨_, _, G, st, ?_⟩
    unfold runF at h
    rw [if_pos hl] at h
    rw [hl]
    generalize M (ds.map Sl.dat ++ List.replicate (N.length - ps.length) Sl.un) = z at h
    cases z with
    | nx r => exact fun ad' σ' G' H' s' _ => h .non G' H' s'.hst.grow0 .non
    | rt d r => exact fun v ad' σ' G' H' s' pv => h v G' H' s'.hst.grow0 pv
    | rtO l r => exact fun p xs ad' σ' G' H' s' np h0 g' h' pv => h p xs G' H' s'.hst.grow0 h0 g' h' pv
    | exc c fs => exact fun dd fv G' H' s' hd pf => h dd fv G' H' s'.grow0 hd pf
    | bk r => exact h.elim
    | ct r => exact h.elim
    | bad => exact h.elim
end
/-- what a call comes to -/
def mCall (F : List D → FR) (a : MA) : ME := fun r => match a r with
  | .ok ds r1 => (match F ds with
    | .ok d => .ok d r1
    | .own l => .ok (.lst l) r1
    | .exc c fs => .exc c fs
    | .bad => .bad)
  | .exc c fs => .exc c fs
  | .bad => .bad
theorem tE_call {F : List D → FR} {a : MA} : ∀ σ H Q, tE C E (mCall F a) σ H Q → tA C E a σ H (fun vs H1 => spF C.K C.cls F vs H1 Q E) := by
  intro σ H Q ⟨r, ad, G, s, k⟩
  refine ⟨r, ad, G, s, ?_⟩
  unfold mCall at k
  unfold kA
  cases ea : a r with
  | bad => rw [ea] at k; exact k
  | exc c fs => rw [ea] at k; exact k
  | ok ds r1 =>
    rw [ea] at k
    simp only at k
    intro vs G1 H1 s1 k1 p1
    refine ⟨G1, ds, s1.hst.sub, s1.hst.gnt, p1, ?_⟩
    cases eF : F ds with
    | bad => rw [eF] at k; exact k
    | exc c fs =>
      rw [eF] at k
      exact fun dd fv G2 H2 gr hd pf => k dd fv G2 H2 (s1.hst.grow gr) hd pf
    | ok d =>
      rw [eF] at k
      exact fun v G2 H2 gr pv => k v G2 H2 (s1.grow gr) (k1.trans (Kp.grow gr)) pv
    | own l =>
      rw [eF] at k
      intro p xs G2 H2 gr n g h pv
      have s2 := s1.grow gr
      have np : ∀ j, isOwn r1 j → ad j ≠ p := fun j hj z => s1.own_ne hj (by rw [z]; exact n)
      have s3 := s2.still g (new_H0 s1 n) h (fun _ z => nomatch z) np
      refine k (.ref p) _ H2 s3 (k1.trans ((Kp.grow gr).still n g)) (.lst upd_same (pv.up (same_upd g)))
def mCallO (F : List D → FR) (a : MA) : MA := fun r => match a r with
  | .ok ds r1 => (match F ds with
    | .own l => .ok l r1
    | .exc c fs => .exc c fs
    | _ => .bad)
  | .exc c fs => .exc c fs
  | .bad => .bad
theorem tO_call {F : List D → FR} {a : MA} : ∀ σ H Q, tO C E (mCallO F a) σ H Q → tA C E a σ H (fun vs H1 => spF C.K C.cls F vs H1 Q E) := by
  intro σ H Q ⟨r, ad, G, s, k⟩
  refine ⟨r, ad, G, s, ?_⟩
  unfold mCallO at k
  unfold kA
  unfold kO at k
  cases ea : a r with
  | bad => simp only [ea] at k
  | exc c fs => simp only [ea] at k; exact k
  | ok ds r1 =>
    simp only [ea] at k
    intro vs G1 H1 s1 k1 p1
    refine ⟨G1, ds, s1.hst.sub, s1.hst.gnt, p1, ?_⟩
    cases eF : F ds with
    | bad => simp only [eF] at k
    | exc c fs =>
      simp only [eF] at k
      exact fun dd fv G2 H2 gr hd pf => k dd fv G2 H2 (s1.hst.grow gr) hd pf
    | ok d => simp only [eF] at k
    | own l =>
      simp only [eF] at k
      intro p xs G2 H2 gr n g h pv
      have n0 : H p = none := by
        cases q : H p with
        | none => rfl
        | some o => exact absurd n (k1.dom p (by rw [q]; simp))
      exact k p xs G2 H2 (s1.grow gr) (k1.trans (Kp.grow gr)) n0 g h pv
variable {x : Str} {p : Pos} {e : Expr} {es : List Expr} {CX : CXT} {k : Nat} {f : Addr} {fd : FuncData} {ps : List Str} {F : List D → FR} {a : MA}
theorem e_call (Fn : FnOk X.prog X.w X.K X.mg X.base CX k f fd ps (spF C.K C.cls F)) (hr : Room k X.A) (hm : X.mg x = some (.ref f)) (hk : PySem.W.keepIn X.K (.ref f) = true) (hb : Binds X.K fd ps []) (hx : Passes CX X E)
    (ha : PA X (e :: es) (tA C E a)) (hg : Gl X x := by rfl) (hdb : (x == ("__debug__" : Str)) = false := by decide) (he : starEach (e :: es) X.env = (false, eval e X.env) :: starEach es X.env := by rfl) (hpl : (backTo pos (starEach es X.env)).any (·.1) = false := by rfl) :
    PE X (.Call (.Name x p) (e :: es) [] pos) (tE C E (mCall F a)) := by
  refine PE.imp (pe_call (dvs := []) Fn hr hg hm hk hb .nil hx ha hdb he hpl) fun σ H Q h => ?_
  have q := tE_call σ H Q h
  simpa only [tCall, List.append_nil] using q
theorem o_call (Fn : FnOk X.prog X.w X.K X.mg X.base CX k f fd ps (spF C.K C.cls F)) (hr : Room k X.A) (hm : X.mg x = some (.ref f)) (hk : PySem.W.keepIn X.K (.ref f) = true) (hb : Binds X.K fd ps []) (hx : Passes CX X E)
    (ha : PA X (e :: es) (tA C E a)) (hg : Gl X x := by rfl) (hdb : (x == ("__debug__" : Str)) = false := by decide) (he : starEach (e :: es) X.env = (false, eval e X.env) :: starEach es X.env := by rfl) (hpl : (backTo pos (starEach es X.env)).any (·.1) = false := by rfl) :
    PE X (.Call (.Name x p) (e :: es) [] pos) (tO C E (mCallO F a)) := by
  refine PE.imp (pe_call (dvs := []) Fn hr hg hm hk hb .nil hx ha hdb he hpl) fun σ H Q h => ?_
  have q := tO_call σ H Q h
  simpa only [tCall, List.append_nil] using q
end
end DL

/-! Defs that write to the list in their first place (a pool of draws). -/
namespace DL
open PySem PySem.Spec PyProof.Rows L2

inductive QR where
  | ok (d : D) (l : List D)
  | own (m : List D) (l : List D)
  | bad
/-- all but the list at a stays -/
structure GrowX (a : Addr) (G H G' H' : Hp) : Prop where
  g : Same G G'
  h : ∀ b o, H b = some o → b ≠ a → H' b = some o
  sub : Same G' H'
  gnt : ∀ b ps, G' b ≠ some (.tbl ps)
  nofz : ∀ b, wr (H b) → G b = none → G' b = none
def spQ (K : PySem.W.Frag) (F : List D → List D → QR) : Sp := fun vs H Q E => ∃ G a xs l us ds, vs = .ref a :: us ∧ Same G H ∧ (∀ b ps, G b ≠ some (.tbl ps)) ∧ G a = none ∧ H a = some (.lst xs) ∧ RpL K G xs l ∧ RpL K G us ds ∧
  match F l ds with
  | .ok d l' => ∀ v ys G' H', GrowX a G H G' H' → H' a = some (.lst ys) → RpL K G' ys l' → Rp K G' v d → Q v H'
  | .own m l' => ∀ p zs ys G' H', GrowX a G H G' H' → H' a = some (.lst ys) → RpL K G' ys l' → H p = none → G' p = none → H' p = some (.lst zs) → RpL K G' zs m → Q (.ref p) H'
  | .bad => False
def runQ (M : MS) (n k : Nat) (l ds : List D) : QR := if ds.length + 1 = n then (match M (.own true l :: ds.map .dat ++ List.replicate k .un) with
  | .rt d (.own true l' :: _) => .ok d l'
  | .nx (.own true l' :: _) => .ok .non l'
  | .rtO m (.own true l' :: _) => .own m l'
  | _ => .bad) else .bad
abbrev fcQ (K : PySem.W.Frag) (cls : Str → Addr) (G H : Hp) (a : Addr) : Fc := ⟨K, cls, G, H, [a], []⟩
theorem Hst.growX {K : PySem.W.Frag} {cls : Str → Addr} {G H G' H' : Hp} {a : Addr} (s : Hst (fcQ K cls G H a) G' H') : GrowX a G H G' H' :=
  ⟨s.g0, fun b o e n => s.keep b o e (by simpa using n) (fun p hp => by cases hp), s.sub, s.gnt, s.nofz⟩
theorem stt_startQ {C : Fc} {N : List Str} {G H : Hp} {a : Addr} {xs us : List V} {l ds : List D} (hs : Hst C G H) (ga : G a = none) (ha : H a = some (.lst xs)) (io : a ∈ C.io) (pl : RpL C.K G xs l) (p : RpL C.K G us ds) (hn : ds.length + 1 ≤ N.length) :
    Stt C (.own true l :: ds.map .dat ++ List.replicate (N.length - (ds.length + 1)) .un) (fun _ => a) (L2.start N (.ref a :: us)) G H := by
  have at_ : ∀ (i : Nat) (x : Sl), (Sl.own true l :: ds.map Sl.dat ++ List.replicate (N.length - (ds.length + 1)) Sl.un)[i]? = some x → (i = 0 ∧ x = .own true l) ∨ (∃ j d, i = j + 1 ∧ x = .dat d ∧ ds[j]? = some d) ∨ x = .un := by
    intro i x h
    cases i with
    | zero => simp at h; exact .inl ⟨rfl, h.symm⟩
    | succ i =>
      rw [List.cons_append, List.getElem?_cons_succ] at h
      by_cases hi : i < ds.length
      · rw [List.getElem?_append_left (by simpa using hi), List.getElem?_map] at h
        cases e : ds[i]? with
        | none => rw [e] at h; cases h
        | some d => rw [e] at h; cases h; exact .inr (.inl ⟨i, d, rfl, rfl, e⟩)
      · rw [List.getElem?_append_right (by simpa using hi), List.getElem?_replicate] at h
        split at h
        · cases h; exact .inr (.inr rfl)
        · cases h
  have one : ∀ i, isOwn (Sl.own true l :: ds.map Sl.dat ++ List.replicate (N.length - (ds.length + 1)) Sl.un) i → i = 0 := by
    intro i h
    rcases h with ⟨k, m, h⟩ | ⟨t, m, h⟩ <;> rcases at_ i _ h with ⟨e, _⟩ | ⟨j, d, _, e, _⟩ | e <;> first | exact e | cases e
  refine ⟨hs, ?_, fun i d h => ?_, fun i k m h => ?_, fun i t m h => ?_, fun i j h1 h2 _ => (one i h1).trans (one j h2).symm⟩
  · unfold L2.start
    have := p.length
    simp only [List.length_append, List.length_map, List.length_replicate, List.length_cons]
    omega
  · rcases at_ i _ h with ⟨_, e⟩ | ⟨j, d', rfl, e, h'⟩ | e
    · cases e
    · cases e
      obtain ⟨v, e1, e2⟩ := p.get h'
      exact ⟨v, start_get (by simpa using e1), e2⟩
    · cases e
  · rcases at_ i _ h with ⟨rfl, e⟩ | ⟨j, d', rfl, e, h'⟩ | e
    · cases e
      exact ⟨start_get rfl, io, ga, xs, ha, pl⟩
    · cases e
    · cases e
  · rcases at_ i _ h with ⟨rfl, e⟩ | ⟨j, d', rfl, e, h'⟩ | e <;> cases e
section
variable {P : Program} {w : World} {K : PySem.W.Frag} {mg : Str → Option Value} {base : Heap} {cls : Str → Addr}
theorem fnQ {x qual : Str} {st : Stmt} {f : Addr} {fd : FuncData} {N ps : List Str} {k : Nat} {M : MS} (F : Fun K x qual st f fd) (S : FnScope N ps (defScope st))
    (hbody : ∀ (cdv : Value) (A : Around) (outer : List Env) (s : Shared) (H G : Hp) (E : XK) (a : Addr), Room k (A.deeper (envOfC qual (defScope st) s.heap.objs.size f cdv)) →
      PSs (cxOf (L2.CX P w) P w K mg base N qual (defScope st) f cdv A outer s H E) (defBody st) (tS (fcQ K cls G H a) E M)) :
    FnOk P w K mg base (L2.CX P w) (k + 1) f fd ps (spQ K (runQ M ps.length (N.length - ps.length))) := by
  have hpl : ps.length ≤ N.length := by have := congrArg List.length S.pre; rw [List.length_take] at this; omega
  refine F.okX S (fun vs H Q E h => ?_) (fun cdv A outer s H vs Q E hr h => ?_)
  · obtain ⟨G, a, xs, l, us, ds, rfl, _, _, _, _, _, p, h⟩ := h
    rw [List.length_cons, p.length]
    unfold runQ at h
    by_cases e : ds.length + 1 = ps.length
    · exact e
    · rw [if_neg e] at h; exact h.elim
  · obtain ⟨G, a, xs, l, us, ds, rfl, sub, gnt, ga, ha, pl, p, h⟩ := h
    refine ⟨_, hbody cdv A outer s H G E a hr, ?_⟩
    have hl : ds.length + 1 = ps.length := by
      unfold runQ at h
      by_cases e : ds.length + 1 = ps.length
      · exact e
      · rw [if_neg e] at h; exact h.elim
    have hst : Hst (fcQ K cls G H a) G H := ⟨sub, gnt, Same.refl _, fun _ z => z, fun _ z => z, fun _ _ z _ _ => z, fun _ _ z => z, fun p hp => by cases hp⟩
    have st := stt_startQ (C := fcQ K cls G H a) (N := N) hst ga ha (by simp) pl p (by rw [hl]; exact hpl)
    refine ⟨_, _, G, st, ?_⟩
    unfold runQ at h
    rw [if_pos hl] at h
    rw [hl]
    have own0 : ∀ {r : DEnv} {m : List D} {ad' : Nat → Addr} {σ' : L2.St} {G' H' : Hp}, Stt (fcQ K cls G H a) (.own true m :: r) ad' σ' G' H' → ∃ ys, H' a = some (.lst ys) ∧ RpL K G' ys m := by
      intro r m ad' σ' G' H' s'
      obtain ⟨h1, h2, h3, ys, h4, h5⟩ := s'.own 0 true m rfl
      have e : ad' 0 = a := by simpa using h2
      rw [e] at h4
      exact ⟨ys, h4, h5⟩
    generalize M (Sl.own true l :: ds.map Sl.dat ++ List.replicate (N.length - ps.length) Sl.un) = z at h
    cases z with
    | nx r =>
      cases r with
      | nil => exact h.elim
      | cons q r =>
        cases q with
        | own b m =>
          cases b with
          | true =>
            intro ad' σ' G' H' s' _
            obtain ⟨ys, y1, y2⟩ := own0 s'
            exact h .non ys G' H' s'.hst.growX y1 y2 .non
          | false => exact h.elim
        | _ => exact h.elim
    | rt d r =>
      cases r with
      | nil => exact h.elim
      | cons q r =>
        cases q with
        | own b m =>
          cases b with
          | true =>
            intro v ad' σ' G' H' s' pv
            obtain ⟨ys, y1, y2⟩ := own0 s'
            exact h v ys G' H' s'.hst.growX y1 y2 pv
          | false => exact h.elim
        | _ => exact h.elim
    | rtO ll r =>
      cases r with
      | nil => exact h.elim
      | cons q r =>
        cases q with
        | own b m =>
          cases b with
          | true =>
            intro p xs' ad' σ' G' H' s' np h0 g' h' pv
            obtain ⟨ys, y1, y2⟩ := own0 s'
            exact h p xs' ys G' H' s'.hst.growX y1 y2 h0 g' h' pv
          | false => exact h.elim
        | _ => exact h.elim
    | exc c fs => exact h.elim
    | bk r => exact h.elim
    | ct r => exact h.elim
    | bad => exact h.elim
end
section
variable {X : Cx} {C : Fc} {E : XK} {pos : Pos}
/-- a call f(x, ..), x's list held alone in slot i -/
def mCallP (i : Nat) (F : List D → List D → QR) (a : MA) : ME := fun r => match r[i]? with
  | some (.own _ _) => (match a r with
    | .ok ds r1 => (match r1[i]? with
      | some (.own k l) => (match F l ds with
        | .ok d l' => .ok d (r1.set i (.own k l'))
        | .own m l' => .ok (.lst m) (r1.set i (.own k l'))
        | .bad => .bad)
      | _ => .bad)
    | .exc c fs => .exc c fs
    | .bad => .bad)
  | _ => .bad
def mCallPO (i : Nat) (F : List D → List D → QR) (a : MA) : MA := fun r => match r[i]? with
  | some (.own _ _) => (match a r with
    | .ok ds r1 => (match r1[i]? with
      | some (.own k l) => (match F l ds with
        | .own m l' => .ok m (r1.set i (.own k l'))
        | _ => .bad)
      | _ => .bad)
    | .exc c fs => .exc c fs
    | .bad => .bad)
  | _ => .bad
theorem Stt.growX {r : DEnv} {ad : Nat → Addr} {σ : L2.St} {G H G' H' : Hp} {i : Nat} {k : Bool} {l l' : List D} {ys : List V} (s : Stt C r ad σ G H) (e : r[i]? = some (.own k l)) (w : GrowX (ad i) G H G' H') (hy : H' (ad i) = some (.lst ys)) (p : RpL C.K G' ys l') :
    Stt C (r.set i (.own k l')) ad σ G' H' ∧ Kp C r (r.set i (.own k l')) ad G H G' H' := by
  obtain ⟨h1, h2, h3, xs, h4, h5⟩ := s.own i k l e
  have oi : isOwn r i := .inl ⟨k, l, e⟩
  have hsub : ∀ j, isOwn (r.set i (.own k l')) j → isOwn r j := fun j h => by
    rcases own_set h with z | z
    · rw [z]; exact oi
    · exact z
  have dom : ∀ b, H b ≠ none → H' b ≠ none := fun b n => by
    by_cases hb : b = ad i
    · rw [hb, hy]; simp
    · obtain ⟨o, q⟩ := some_of_ne n
      rw [w.h b o q hb]; simp
  have domN : ∀ b, wr (H b) → wr (H' b) := fun b n => by
    by_cases hb : b = ad i
    · rw [hb, hy]; trivial
    · cases q : H b with
      | none => rw [q] at n; exact n.elim
      | some o => rw [w.h b o q hb]; rw [q] at n; exact n
  have tabs : LamX.Tabs C.T H' := by
    intro p hp
    obtain ⟨ps, e1, e2, e3⟩ := s.hst.tabs p hp
    refine ⟨ps, w.h _ _ e1 (fun z => by rw [z, h4] at e1; cases e1), e2, fun pos cv h => ?_⟩
    obtain ⟨c, z1, z2⟩ := e3 pos cv h
    exact ⟨c, z1, w.h _ _ z2 (fun z => by rw [z, h4] at z2; cases z2)⟩
  have hst : Hst C G' H' := by
    refine ⟨w.sub, w.gnt, s.hst.g0.trans w.g, fun b n => dom b (s.hst.dom b n), fun b n => domN b (s.hst.domN b n), fun b o q n t => ?_, fun b n z => w.nofz b (s.hst.domN b n) (s.hst.nofz b n z), tabs⟩
    refine w.h b o (s.hst.keep b o q n t) (fun z => ?_)
    cases k with
    | true => exact n (by rw [z]; exact h2)
    | false =>
      have h2' : C.H0 (ad i) = none := h2
      rw [z, h2'] at q; cases q
  refine ⟨⟨hst, by simpa using s.len, fun j d q => ?_, fun j k' m q => ?_, fun j t m q => ?_, fun j j' a b => s.inj j j' (hsub j a) (hsub j' b)⟩, ⟨w.g, hsub, dom, domN, fun b u z n _ => w.h b u z (n i oi), fun b z y _ => w.nofz b z y⟩⟩
  · rcases get_set q with ⟨_, q, _⟩ | ⟨n, q⟩
    · cases q
    · obtain ⟨v, a1, a2⟩ := s.dat j d q
      exact ⟨v, a1, a2.up w.g⟩
  · rcases get_set q with ⟨rfl, q, _⟩ | ⟨n, q⟩
    · cases q
      exact ⟨h1, h2, w.nofz _ (wr_lst h4) h3, ys, hy, p⟩
    · obtain ⟨z1, z2, z3, zs, z4, z5⟩ := s.own j k' m q
      have ne : ad j ≠ ad i := fun z => n (s.inj j i (.inl ⟨k', m, q⟩) oi z)
      exact ⟨z1, z2, w.nofz _ (wr_lst z4) z3, zs, w.h _ _ z4 ne, z5.up w.g⟩
  · rcases get_set q with ⟨_, q, _⟩ | ⟨n, q⟩
    · cases q
    · obtain ⟨z1, z2, z3, z4⟩ := s.ownD j t m q
      have ne : ad j ≠ ad i := fun z => n (s.inj j i (.inr ⟨t, m, q⟩) oi z)
      obtain ⟨o, ho⟩ := some_of_ne z4.ne
      exact ⟨z1, z2, w.nofz _ z4.wr z3, z4.up w.g (by rw [ho, w.h _ _ ho ne])⟩
theorem tE_callP {i : Nat} {F : List D → List D → QR} {a : MA} : ∀ σ H Q, tE C E (mCallP i F a) σ H Q → tCons (tVar i) (tA C E a) σ H (fun vs H1 => spQ C.K F vs H1 Q E) := by
  intro σ H Q ⟨r, ad, G, s, k⟩
  unfold mCallP at k
  split at k
  · rename_i k0 l0 e0
    obtain ⟨h1, _⟩ := s.own i k0 l0 e0
    refine ⟨_, h1, r, ad, G, s, ?_⟩
    unfold kA
    unfold kE at k
    cases ea : a r with
    | bad => simp only [ea] at k
    | exc c fs => simp only [ea] at k; exact k
    | ok ds r1 =>
      simp only [ea] at k
      intro vs G1 H1 s1 k1 p1
      cases er : r1[i]? with
      | none => simp only [er] at k
      | some q =>
        simp only [er] at k
        cases q with
        | own kk l =>
          simp only at k
          obtain ⟨z1, z2, z3, xs, z4, z5⟩ := s1.own i kk l er
          refine ⟨G1, ad i, xs, l, vs, ds, rfl, s1.hst.sub, s1.hst.gnt, z3, z4, z5, p1, ?_⟩
          cases eF : F l ds with
          | bad => simp only [eF] at k
          | ok d l' =>
            simp only [eF] at k
            intro v ys G2 H2 w hy pl pv
            obtain ⟨s2, k2⟩ := s1.growX er w hy pl
            exact k v G2 H2 s2 (k1.trans k2) pv
          | own m l' =>
            simp only [eF] at k
            intro p zs ys G2 H2 w hy pl n g h pm
            obtain ⟨s2, k2⟩ := s1.growX er w hy pl
            have np : ∀ j, isOwn (r1.set i (.own kk l')) j → ad j ≠ p := fun j hj z => s1.own_ne (k2.o j hj) (by rw [z]; exact n)
            have s3 := s2.still g (new_H0 s1 n) h (fun _ z => nomatch z) np
            exact k (.ref p) _ H2 s3 (k1.trans (k2.still n g)) (.lst upd_same (pm.up (same_upd g)))
        | _ => exact k.elim
  · exact k.elim
theorem tO_callP {i : Nat} {F : List D → List D → QR} {a : MA} : ∀ σ H Q, tO C E (mCallPO i F a) σ H Q → tCons (tVar i) (tA C E a) σ H (fun vs H1 => spQ C.K F vs H1 Q E) := by
  intro σ H Q ⟨r, ad, G, s, k⟩
  unfold mCallPO at k
  split at k
  · rename_i k0 l0 e0
    obtain ⟨h1, _⟩ := s.own i k0 l0 e0
    refine ⟨_, h1, r, ad, G, s, ?_⟩
    unfold kA
    unfold kO at k
    cases ea : a r with
    | bad => simp only [ea] at k
    | exc c fs => simp only [ea] at k; exact k
    | ok ds r1 =>
      simp only [ea] at k
      intro vs G1 H1 s1 k1 p1
      cases er : r1[i]? with
      | none => simp only [er] at k
      | some q =>
        simp only [er] at k
        cases q with
        | own kk l =>
          simp only at k
          obtain ⟨z1, z2, z3, xs, z4, z5⟩ := s1.own i kk l er
          refine ⟨G1, ad i, xs, l, vs, ds, rfl, s1.hst.sub, s1.hst.gnt, z3, z4, z5, p1, ?_⟩
          cases eF : F l ds with
          | bad => simp only [eF] at k
          | ok d l' => simp only [eF] at k
          | own m l' =>
            simp only [eF] at k
            intro p zs ys G2 H2 w hy pl n g h pm
            obtain ⟨s2, k2⟩ := s1.growX er w hy pl
            have n0 : H p = none := by
              cases q : H p with
              | none => rfl
              | some o => exact absurd n (k1.dom p (by rw [q]; simp))
            exact k p zs G2 H2 s2 (k1.trans k2) n0 g h pm
        | _ => exact k.elim
  · exact k.elim
variable {x y : Str} {p p2 : Pos} {es : List Expr} {CX : CXT} {k : Nat} {f : Addr} {fd : FuncData} {ps : List Str} {F : List D → List D → QR} {a : MA} {i : Nat}
theorem e_callP (Fn : FnOk X.prog X.w X.K X.mg X.base CX k f fd ps (spQ C.K F)) (hr : Room k X.A) (hm : X.mg x = some (.ref f)) (hk : PySem.W.keepIn X.K (.ref f) = true) (hb : Binds X.K fd ps []) (hx : Passes CX X E)
    (ha : PA X es (tA C E a)) (hg : Gl X x := by rfl) (hN : X.N[i]? = some y := by rfl) (hv : Vis X.env.scope y := by first | exact Or.inl rfl | exact Or.inr (Or.inl rfl) | exact Or.inr (Or.inr rfl))
    (hd : (y == ("__debug__" : Str)) = false := by decide) (hcd : (y == ("__classdict__" : Str)) = false := by decide)
    (hdb : (x == ("__debug__" : Str)) = false := by decide) (he : starEach (.Name y p2 :: es) X.env = (false, eval (.Name y p2) X.env) :: starEach es X.env := by rfl) (hpl : (backTo pos (starEach es X.env)).any (·.1) = false := by rfl) :
    PE X (.Call (.Name x p) (.Name y p2 :: es) [] pos) (tE C E (mCallP i F a)) := by
  refine PE.imp (pe_call (dvs := []) Fn hr hg hm hk hb .nil hx (pa_cons (pe_var hN hv hd hcd) ha he) hdb he hpl) fun σ H Q h => ?_
  have q := tE_callP σ H Q h
  simpa only [tCall, List.append_nil] using q
theorem o_callP (Fn : FnOk X.prog X.w X.K X.mg X.base CX k f fd ps (spQ C.K F)) (hr : Room k X.A) (hm : X.mg x = some (.ref f)) (hk : PySem.W.keepIn X.K (.ref f) = true) (hb : Binds X.K fd ps []) (hx : Passes CX X E)
    (ha : PA X es (tA C E a)) (hg : Gl X x := by rfl) (hN : X.N[i]? = some y := by rfl) (hv : Vis X.env.scope y := by first | exact Or.inl rfl | exact Or.inr (Or.inl rfl) | exact Or.inr (Or.inr rfl))
    (hd : (y == ("__debug__" : Str)) = false := by decide) (hcd : (y == ("__classdict__" : Str)) = false := by decide)
    (hdb : (x == ("__debug__" : Str)) = false := by decide) (he : starEach (.Name y p2 :: es) X.env = (false, eval (.Name y p2) X.env) :: starEach es X.env := by rfl) (hpl : (backTo pos (starEach es X.env)).any (·.1) = false := by rfl) :
    PE X (.Call (.Name x p) (.Name y p2 :: es) [] pos) (tO C E (mCallPO i F a)) := by
  refine PE.imp (pe_call (dvs := []) Fn hr hg hm hk hb .nil hx (pa_cons (pe_var hN hv hd hcd) ha he) hdb he hpl) fun σ H Q h => ?_
  have q := tO_callP σ H Q h
  simpa only [tCall, List.append_nil] using q
end
end DL

/-! Built-ins over data. -/
namespace DL
open PySem PySem.Spec PyProof.Rows L2
def b1 (g : D → Option D) (l : List D) : Option D := match l with
  | [] => none
  | x :: r => match r with
    | [] => g x
    | _ :: _ => none
def b2 (g : D → D → Option D) (l : List D) : Option D := match l with
  | [] => none
  | x :: r => b1 (g x) r
section
variable {X : Cx} {C : Fc} {E : XK}
theorem callD1 {q : List V → Hp → VK → Prop} {g : D → Option D} (h : UnD C (fun v H Q => q [v] H Q) g) : CallD C q (b1 g) := by
  intro G H vs ds d Q s p e k
  cases p with
  | nil => cases e
  | cons p1 p2 =>
    cases p2 with
    | nil => exact h G H _ _ d Q s p1 e k
    | cons _ _ => cases e
theorem callD2 {q : List V → Hp → VK → Prop} {g : D → D → Option D} (h : OpD C (fun v u H Q => q [v, u] H Q) g) : CallD C q (b2 g) := by
  intro G H vs ds d Q s p e k
  cases p with
  | nil => cases e
  | cons p1 p2 =>
    cases p2 with
    | nil => cases e
    | cons p2 p3 =>
      cases p3 with
      | nil => exact h G H _ _ _ _ d Q s p1 p2 e k
      | cons _ _ => cases e
def gInt (x : D) : Option D := match x with
  | .int i => some (.int i)
  | .bl b => some (.int (if b then 1 else 0))
  | _ => none
theorem d_int : CallD C (fun xs H Q => (∃ i, xs = [.int i] ∧ Q (.int i) H) ∨ ∃ k, xs = [.bl k] ∧ Q (.int (if k then 1 else 0)) H) (b1 gInt) := callD1 fun G H v d1 d Q s h1 e k => by
  cases d1 <;> first | (cases e; done) | skip
  · cases e
    rw [rp_bl h1]
    exact .inr ⟨_, rfl, k _ G H (Grow.refl s) (.int _)⟩
  · cases e
    rw [rp_int h1]
    exact .inl ⟨_, rfl, k _ G H (Grow.refl s) (.int _)⟩
def gLen (x : D) : Option D := match x with
  | .lst l => some (.int l.length)
  | .tup l => some (.int l.length)
  | .scr l => some (.int l.length)
  | .cst l => some (.int l.length)
  | .str s => if s.length ≤ 16777216 then some (.int s.length) else none
  | _ => none
theorem d_len : CallD C (fun xs H Q => ∃ x n, xs = [x] ∧ LenV C.K x H n ∧ Q (.int n) H) (b1 gLen) := callD1 fun G H v d1 d Q s h1 e k => by
  cases d1 <;> first | (cases e; done) | skip
  · rename_i z
    unfold gLen at e
    simp only at e
    split at e
    · rename_i hz
      cases e
      rw [rp_str h1]
      exact ⟨_, _, rfl, ⟨by rw [sizeLine_eq]; exact hz, rfl⟩, k _ G H (Grow.refl s) (.int _)⟩
    · cases e
  · cases e
    cases h1 with
    | tup hs hp => exact ⟨_, _, rfl, .inr ⟨_, SqT.of (s.sub _ _ hs), hp.length.symm⟩, k _ G H (Grow.refl s) (.int _)⟩
  · cases e
    cases h1 with
    | lst hs hp => exact ⟨_, _, rfl, .inl ⟨_, SqL.of (s.sub _ _ hs), hp.length.symm⟩, k _ G H (Grow.refl s) (.int _)⟩
  · cases e
    cases h1 with
    | scr hs => exact ⟨_, _, rfl, .inl ⟨_, s.sub.seq hs, (List.length_map ..).symm⟩, k _ G H (Grow.refl s) (.int _)⟩
  · cases e
    cases h1 with
    | cst hs hp => exact ⟨_, _, rfl, .inr ⟨_, SqT_same s.sub hs, hp.length.symm⟩, k _ G H (Grow.refl s) (.int _)⟩
end
end DL

/-! Calls of the text's own defs by their names; equality; isinstance. -/
namespace DL
open PySem PySem.Spec PyProof.Rows L2
/-- a def of the text as the top has left it -/
structure Dfn (K : PySem.W.Frag) (mg : Str → Option Value) (x : Str) (st : Stmt) (ps : List Str) : Prop where
  ex : ∃ f fd, Fun K x x st f fd ∧ mg x = some (.ref f) ∧ Binds K fd ps []
/-- .. and its promise -/
structure Df (P : Program) (w : World) (K : PySem.W.Frag) (mg : Str → Option Value) (base : Heap) (k : Nat) (x : Str) (sp : Sp) : Prop where
  ex : ∃ f fd ps, FnOk P w K mg base (L2.CX P w) k f fd ps sp ∧ mg x = some (.ref f) ∧ PySem.W.keepIn K (.ref f) = true ∧ Binds K fd ps []
section
variable {P : Program} {w : World} {K : PySem.W.Frag} {mg : Str → Option Value} {base : Heap} {cls : Str → Addr}
theorem dfF {x : Str} {st : Stmt} {N ps : List Str} {M : MS} (k : Nat) (d : Dfn K mg x st ps) (S : FnScope N ps (defScope st))
    (hbody : ∀ (f : Addr) (cdv : Value) (A : Around) (outer : List Env) (s : Shared) (H G : Hp) (E : XK), Room k (A.deeper (envOfC x (defScope st) s.heap.objs.size f cdv)) →
      PSs (cxOf (L2.CX P w) P w K mg base N x (defScope st) f cdv A outer s H E) (defBody st) (tS (fc0 K cls G H) E M)) :
    Df P w K mg base (k + 1) x (spF K cls (runF M ps.length (N.length - ps.length))) := by
  obtain ⟨f, fd, F, m, b⟩ := d.ex
  exact ⟨f, fd, ps, fnF F S (hbody f), m, F.kp, b⟩
theorem dfQ {x : Str} {st : Stmt} {N ps : List Str} {M : MS} (k : Nat) (d : Dfn K mg x st ps) (S : FnScope N ps (defScope st))
    (hbody : ∀ (f : Addr) (cdv : Value) (A : Around) (outer : List Env) (s : Shared) (H G : Hp) (E : XK) (a : Addr), Room k (A.deeper (envOfC x (defScope st) s.heap.objs.size f cdv)) →
      PSs (cxOf (L2.CX P w) P w K mg base N x (defScope st) f cdv A outer s H E) (defBody st) (tS (fcQ K cls G H a) E M)) :
    Df P w K mg base (k + 1) x (spQ K (runQ M ps.length (N.length - ps.length))) := by
  obtain ⟨f, fd, F, m, b⟩ := d.ex
  exact ⟨f, fd, ps, fnQ F S (hbody f), m, F.kp, b⟩
theorem px {N : List Str} {qual : Str} {scope : Scope} {f : Addr} {cdv : Value} {A : Around} {outer : List Env} {s : Shared} {H : Hp} {E : XK} : Passes (L2.CX P w) (cxOf (L2.CX P w) P w K mg base N qual scope f cdv A outer s H E) E :=
  passes_call (takes_of rfl rfl rfl rfl) (fun _ _ _ _ h => h)
theorem po {N : List Str} {qual : Str} {scope : Scope} {f : Addr} {cdv : Value} {A : Around} {outer : List Env} {s : Shared} {H : Hp} {E : XK} :
    PassesOwn (model P w) (A.deeper (envOfC qual scope s.heap.objs.size f cdv)) (envOfC qual scope s.heap.objs.size f cdv) (cxOf (L2.CX P w) P w K mg base N qual scope f cdv A outer s H E).xe := by
  have h := passes_of (X := cxOf (L2.CX P w) P w K mg base N qual scope f cdv A outer s H E) (K := fun e s'' => L2.CX P w outer H s E e s'') (E₁ := fun e' s'' => L2.CX P w outer H s E e' s'') rfl
  exact h
end
section
variable {X : Cx} {C : Fc} {E : XK} {pos : Pos} {x y : Str} {p p2 : Pos} {e : Expr} {es : List Expr} {k j : Nat} {F : List D → FR} {Fq : List D → List D → QR} {a : MA} {i : Nat}
theorem e_df (d : Df X.prog X.w X.K X.mg X.base k x (spF C.K C.cls F)) (hr : Room j X.A) (hx : Passes (L2.CX X.prog X.w) X E) (ha : PA X (e :: es) (tA C E a)) (hk : k ≤ j := by decide) (hg : Gl X x := by rfl) (hdb : (x == ("__debug__" : Str)) = false := by decide)
    (he : starEach (e :: es) X.env = (false, eval e X.env) :: starEach es X.env := by rfl) (hpl : (backTo pos (starEach es X.env)).any (·.1) = false := by rfl) : PE X (.Call (.Name x p) (e :: es) [] pos) (tE C E (mCall F a)) := by
  obtain ⟨f, fd, ps, o, m, kp, b⟩ := d.ex
  exact e_call o (hr.mono hk) m kp b hx ha hg hdb he hpl
theorem o_df (d : Df X.prog X.w X.K X.mg X.base k x (spF C.K C.cls F)) (hr : Room j X.A) (hx : Passes (L2.CX X.prog X.w) X E) (ha : PA X (e :: es) (tA C E a)) (hk : k ≤ j := by decide) (hg : Gl X x := by rfl) (hdb : (x == ("__debug__" : Str)) = false := by decide)
    (he : starEach (e :: es) X.env = (false, eval e X.env) :: starEach es X.env := by rfl) (hpl : (backTo pos (starEach es X.env)).any (·.1) = false := by rfl) : PE X (.Call (.Name x p) (e :: es) [] pos) (tO C E (mCallO F a)) := by
  obtain ⟨f, fd, ps, o, m, kp, b⟩ := d.ex
  exact o_call o (hr.mono hk) m kp b hx ha hg hdb he hpl
theorem e_dp (d : Df X.prog X.w X.K X.mg X.base k x (spQ C.K Fq)) (hr : Room j X.A) (hx : Passes (L2.CX X.prog X.w) X E) (ha : PA X es (tA C E a)) (hk : k ≤ j := by decide) (hg : Gl X x := by rfl) (hN : X.N[i]? = some y := by rfl) (hv : Vis X.env.scope y := by first | exact Or.inl rfl | exact Or.inr (Or.inl rfl) | exact Or.inr (Or.inr rfl))
    (hd : (y == ("__debug__" : Str)) = false := by decide) (hcd : (y == ("__classdict__" : Str)) = false := by decide)
    (hdb : (x == ("__debug__" : Str)) = false := by decide) (he : starEach (.Name y p2 :: es) X.env = (false, eval (.Name y p2) X.env) :: starEach es X.env := by rfl) (hpl : (backTo pos (starEach es X.env)).any (·.1) = false := by rfl) :
    PE X (.Call (.Name x p) (.Name y p2 :: es) [] pos) (tE C E (mCallP i Fq a)) := by
  obtain ⟨f, fd, ps, o, m, kp, b⟩ := d.ex
  exact e_callP o (hr.mono hk) m kp b hx ha hg hN hv hd hcd hdb he hpl
theorem o_dp (d : Df X.prog X.w X.K X.mg X.base k x (spQ C.K Fq)) (hr : Room j X.A) (hx : Passes (L2.CX X.prog X.w) X E) (ha : PA X es (tA C E a)) (hk : k ≤ j := by decide) (hg : Gl X x := by rfl) (hN : X.N[i]? = some y := by rfl) (hv : Vis X.env.scope y := by first | exact Or.inl rfl | exact Or.inr (Or.inl rfl) | exact Or.inr (Or.inr rfl))
    (hd : (y == ("__debug__" : Str)) = false := by decide) (hcd : (y == ("__classdict__" : Str)) = false := by decide)
    (hdb : (x == ("__debug__" : Str)) = false := by decide) (he : starEach (.Name y p2 :: es) X.env = (false, eval (.Name y p2) X.env) :: starEach es X.env := by rfl) (hpl : (backTo pos (starEach es X.env)).any (·.1) = false := by rfl) :
    PE X (.Call (.Name x p) (.Name y p2 :: es) [] pos) (tO C E (mCallPO i Fq a)) := by
  obtain ⟨f, fd, ps, o, m, kp, b⟩ := d.ex
  exact o_callP o (hr.mono hk) m kp b hx ha hg hN hv hd hcd hdb he hpl
/-- a constant of the top -/
theorem e_g {d : D} (h : ∃ u v, X.mg x = some u ∧ RelV v u ∧ ∀ G, Rp C.K G v d) (hg : Gl X x := by rfl) (hd : (x == ("__debug__" : Str)) = false := by decide) : PE X (.Name x pos) (tE C E (mC d)) := by
  obtain ⟨u, v, m, rv, hr⟩ := h
  exact e_c (pe_glob hg m rv hd) hr
end

/-! ### equality -/
mutual
def toP : D → PyData
  | .non => .none
  | .bl b => .bool b
  | .int i => .int i
  | .str s => .str s
  | .tup l => .tuple (toPs l)
  | .lst l => .list (toPs l)
  | .dct _ => .dict []
  | .scr _ => .dict []
  | .cst l => .tuple (toPs l)
def toPs : List D → List PyData
  | [] => []
  | d :: l => toP d :: toPs l
end
mutual
theorem dp_of {K : PySem.W.Frag} {G H : Hp} (e : Same G H) : ∀ (d : D) (v : V), (toP d).canLay0 = true → Rp K G v d → Dp K H v (toP d)
  | .non, _, _, h => by cases h; exact .non
  | .bl b, _, _, h => by cases h; exact .bl b
  | .int i, _, _, h => by cases h; exact .int i
  | .str s, _, _, h => by cases h; exact .str s
  | .tup l, _, c, h => by
    cases h with
    | tup h1 h2 => exact .tup (SqT.of (e _ _ h1)) (dps_of e l _ (by simpa [toP, PyData.canLay0] using c) h2)
  | .cst l, _, c, h => by
    cases h with
    | cst h1 h2 => exact .tup (SqT_same e h1) (dps_of e l _ (by simpa [toP, PyData.canLay0] using c) h2)
  | .lst l, _, c, h => by
    cases h with
    | lst h1 h2 => exact .lst (SqL.of (e _ _ h1)) (dps_of e l _ (by simpa [toP, PyData.canLay0] using c) h2)
  | .dct l, _, c, h => by simp [toP, PyData.canLay0] at c
  | .scr l, _, c, h => by simp [toP, PyData.canLay0] at c
theorem dps_of {K : PySem.W.Frag} {G H : Hp} (e : Same G H) : ∀ (l : List D) (vs : List V), PyData.canLayAll0 (toPs l) = true → RpL K G vs l → DpAll K H vs (toPs l)
  | [], _, _, h => by cases h; exact .nil
  | d :: l, _, c, h => by
    cases h with
    | cons h1 h2 =>
      have c' : (toP d).canLay0 = true ∧ PyData.canLayAll0 (toPs l) = true := by simpa [toPs, PyData.canLayAll0] using c
      exact .cons (dp_of e d _ c'.1 h1) (dps_of e l _ c'.2 h2)
end
def okEq (d : D) : Bool := SeqAt.shaped (toP d)
def eqB (d e : D) : Bool := PyData.eqv (toP d) (toP e)
def gEq (d e : D) : Option D := if okEq d && okEq e then some (.bl (eqB d e)) else none
def gNe (d e : D) : Option D := if okEq d && okEq e then some (.bl (!eqB d e)) else none
section
variable {C : Fc}
theorem d_eq : OpD C (rEqD C.K) gEq := by
  intro G H v1 v2 d1 d2 d Q s h1 h2 e k
  unfold gEq at e
  split at e
  · rename_i ho
    obtain ⟨o1, o2⟩ := Bool.and_eq_true_iff.mp ho
    cases e
    exact ⟨toP d1, toP d2, dp_of s.sub d1 v1 (SeqAt.canLay_of_shaped o1) h1, dp_of s.sub d2 v2 (SeqAt.canLay_of_shaped o2) h2, o1, o2, k _ G H (Grow.refl s) (.bl _)⟩
  · cases e
theorem d_ne : OpD C (rNeD C.K) gNe := by
  intro G H v1 v2 d1 d2 d Q s h1 h2 e k
  unfold gNe at e
  split at e
  · rename_i ho
    obtain ⟨o1, o2⟩ := Bool.and_eq_true_iff.mp ho
    cases e
    exact ⟨toP d1, toP d2, dp_of s.sub d1 v1 (SeqAt.canLay_of_shaped o1) h1, dp_of s.sub d2 v2 (SeqAt.canLay_of_shaped o2) h2, o1, o2, k _ G H (Grow.refl s) (.bl _)⟩
  · cases e
end
end DL

/-! isinstance, all, any, tuple, list, +, *, in, a, b = x, y; range, signs. -/
namespace DL
open PySem PySem.Spec PyProof.Rows L2
/-! ### isinstance -/
def tyD : D → String
  | .non => "NoneType"
  | .bl _ => "bool"
  | .int _ => "int"
  | .str _ => "str"
  | .tup _ => "tuple"
  | .lst _ => "list"
  | .dct _ => "dict"
  | .scr _ => "list"
  | .cst _ => "tuple"
inductive Ty where
  | int | bool | str | list | tuple | dict
def Ty.nm : Ty → String
  | .int => "int" | .bool => "bool" | .str => "str" | .list => "list" | .tuple => "tuple" | .dict => "dict"
def isT : Ty → D → Bool
  | .int, .int _ => true
  | .int, .bl _ => true
  | .bool, .bl _ => true
  | .str, .str _ => true
  | .list, .lst _ => true
  | .list, .scr _ => true
  | .tuple, .tup _ => true
  | .tuple, .cst _ => true
  | .dict, .dct _ => true
  | _, _ => false
def gIsi (t : Ty) (d : D) : Option D := match d with
  | .scr _ => none
  | d => some (.bl (isT t d))
def gIsiLT (d : D) : Option D := match d with
  | .scr _ => none
  | d => some (.bl (isT .list d || isT .tuple d))
theorem tyX_of {K : PySem.W.Frag} {G H : Hp} (e : Same G H) {v : V} {d : D} (h : Rp K G v d) (n : ∀ l, d ≠ .scr l) : TyX K H v (.type (tyD d)) ∨ ∃ o kvs a, v = .ref a ∧ H a = some (.frz o (.dT kvs)) ∧ tyD d = "dict" := by
  cases h with
  | non => exact .inl (.base .non)
  | bl b => exact .inl (.base (.bl b))
  | int i => exact .inl (.base (.int i))
  | str s => exact .inl (.base (.str s))
  | tup hs _ => exact .inl (.base (.tup (e _ _ hs)))
  | cst hs _ =>
    rcases hs with (hs | ⟨o, hs⟩) | ⟨o, its, m, hk, hc, _⟩
    · exact .inl (.base (.tup (e _ _ hs)))
    · exact .inl (.fTuple (e _ _ hs))
    · exact .inl (.kTuple hk hc)
  | lst hs _ => exact .inl (.base (.lst (e _ _ hs)))
  | scr hs => exact absurd rfl (n _)
  | dK hs _ => exact .inl (.fDict (e _ _ hs))
  | dT hs _ => exact .inr ⟨_, _, _, rfl, e _ _ hs, rfl⟩
def TyY (K : PySem.W.Frag) (H : Hp) (v : V) (t : Value) : Prop := TyX K H v t ∨ ∃ o kvs a, v = .ref a ∧ H a = some (.frz o (.dT kvs)) ∧ t = .type "dict"
section
variable {X : Cx} {pins : List (Addr × Obj)} {σ : L2.St} {H : Hp} {s : Shared}
theorem kit_ofY {x : V} {u t : Value} (I : Inv X pins σ H s) (rx : RelV x u) (ty : TyY X.K H x t) : ∃ P : Heap → Prop, PySem.W.KitX X.K u t P ∧ P s.heap ∧ u ≠ .builtin "__main__.__loader__#opaque" := by
  rcases ty with ty | ⟨ob, kvs, a, rfl, ea, rfl⟩
  · exact kit_of I rx ty
  · cases (show u = Value.ref a from rx)
    obtain ⟨_, _, _, xs, _, o, es, ep, h1, h2, _⟩ := (show ObjOk X.prog X.w H s.heap a (.frz ob (.dT kvs)) from I.hok a _ ea)
    exact ⟨_, PySem.W.kitx_dict, ⟨o, h1, h2.1⟩, fun z => nomatch z⟩
def rIsiY (K : PySem.W.Frag) : List V → Hp → VK → Prop := fun xs H Q => ∃ (x c : V) (t u : Value) (b : Bool), xs = [x, c] ∧ ClsV c u ∧ TyY K H x t ∧ PySem.W.kitOne K t u = some b ∧ Q (.bl b) H
def rIsiTY (K : PySem.W.Frag) : List V → Hp → VK → Prop := fun xs H Q => ∃ (x : V) (tp : Addr) (cs : List V) (t : Value) (us : List Value) (b : Bool), xs = [x, .ref tp] ∧ H tp = some (.tup cs) ∧ Paired ClsV cs us ∧ TyY K H x t ∧ PySem.W.kitAny K t us = some b ∧ Q (.bl b) H
theorem call_isiY : CallR X (.builtin "isinstance") (rIsiY X.K) := by
  intro pins s σ H xs us Q I r h
  obtain ⟨x, c, t, u, b, rfl, k, ty, e, q⟩ := h
  cases r with
  | cons r1 r2 =>
    cases r2 with
    | cons r2 r3 =>
      cases r3
      have e2 := k.eq r2
      subst e2
      obtain ⟨P, Z, p, hx⟩ := kit_ofY I r1 ty
      exact PySem.W.kia_one Z I.kIn p e hx fun tk => ⟨.bl b, H, I.tok tk, rfl, q⟩
theorem call_isiTY : CallR X (.builtin "isinstance") (rIsiTY X.K) := by
  intro pins s σ H xs us Q I r h
  obtain ⟨x, tp, cs, t, ws, b, rfl, hT, k, ty, e, q⟩ := h
  cases r with
  | cons r1 r2 =>
    cases r2 with
    | cons r2 r3 =>
      cases r3
      cases r2
      obtain ⟨P, Z, p, hx⟩ := kit_ofY I r1 ty
      obtain ⟨_, its, rv, o, h1, h2, n, h3⟩ := (show ObjOk X.prog X.w H s.heap tp (.tup cs) from I.hok tp _ hT)
      have e3 := ClsV.all k rv
      subst e3
      obtain ⟨oc, od, dt, sl⟩ := o
      simp only at h2 h3
      subst h2 h3
      exact PySem.W.kia_tup Z I.kIn p h1 e hx fun tk => ⟨.bl b, H, I.tok tk, rfl, q⟩
end
theorem tyY_of {K : PySem.W.Frag} {G H : Hp} (e : Same G H) {v : V} {d : D} (h : Rp K G v d) (n : ∀ l, d ≠ .scr l) : TyY K H v (.type (tyD d)) := by
  rcases tyX_of e h n with h | ⟨o, kvs, a, h1, h2, h3⟩
  · exact .inl h
  · exact .inr ⟨o, kvs, a, h1, h2, by rw [h3]⟩
theorem kit_isT (t : Ty) (d : D) (n : ∀ l, d ≠ .scr l) : kitB (tyD d) t.nm = some (isT t d) := by
  cases d <;> first | exact absurd rfl (n _) | (cases t <;> first | rfl | decide +kernel)
section
variable {X : Cx} {C : Fc} {E : XK} {pos : Pos}
theorem e_isi (t : Ty) {e : Expr} {m : ME} {c : Str} {p p2 : Pos} (h : PE X e (tE C E m)) (hi : X.mg "isinstance" = none) (hm : X.mg c = none) (hv : bootBuiltins c = some (.type t.nm) := by decide +kernel) (hK : C.K = X.K := by rfl) (hgi : Gl X "isinstance" := by rfl) (hg : Gl X c := by rfl)
    (hn : c ≠ "__name__" := by decide) (hd : (c == ("__debug__" : Str)) = false := by decide)
    (hs : starEach [e, .Name c p2] X.env = (false, eval e X.env) :: starEach [.Name c p2] X.env := by rfl) (hs2 : starEach [.Name c p2] X.env = (false, eval (.Name c p2) X.env) :: starEach [] X.env := by rfl) (hpl : (backTo pos (starEach [.Name c p2] X.env)).any (·.1) = false := by rfl) :
    PE X (.Call (.Name "isinstance" p) [e, .Name c p2] [] pos) (tE C E (mUn (gIsi t) m)) := by
  refine PE.imp (pe_callB call_isiY hgi hi (by decide +kernel) (pa_cons h (pa_cons (pe_bltn (v := .ty t.nm) hg hm hv rfl hn hd) pa_nil hs2) hs) (by decide) (by decide) hs hpl) fun σ H Q ⟨r, ad, G, s, k⟩ => ⟨r, ad, G, s, ?_⟩
  unfold mUn at k
  unfold kE at k ⊢
  cases e : m r with
  | bad => simp only [e, bindE] at k
  | exc c fs => simp only [e, bindE] at k; exact k
  | ok d r1 =>
    simp only [e, bindE] at k
    intro v G1 H1 s1 k1 p1
    have ns : ∀ l, d ≠ .scr l := fun l z => by subst z; exact k
    have eg : gIsi t d = some (.bl (isT t d)) := by cases d <;> first | rfl | exact absurd rfl (ns _)
    rw [eg] at k
    exact ⟨v, .ty t.nm, .type (tyD d), .type t.nm, isT t d, rfl, .ty _, by rw [← hK]; exact tyY_of s1.hst.sub p1 ns, kit_ty (kit_isT t d ns), k _ G1 H1 s1 k1 (.bl _)⟩
theorem e_isiLT {e : Expr} {m : ME} {p p1 p2 p3 : Pos} {kk : Nat} (hi : X.mg "isinstance" = none) (hl : X.mg "list" = none) (ht : X.mg "tuple" = none) (h : PE X e (tE C E m)) (hK : C.K = X.K := by rfl) (hgi : Gl X "isinstance" := by rfl) (hgl : Gl X "list" := by rfl) (hgt : Gl X "tuple" := by rfl)
    (hs : starEach [e, .Tuple [.Name "list" p1, .Name "tuple" p2] kk p3] X.env = (false, eval e X.env) :: starEach [.Tuple [.Name "list" p1, .Name "tuple" p2] kk p3] X.env := by rfl) (hpl : (backTo pos (starEach [.Tuple [.Name "list" p1, .Name "tuple" p2] kk p3] X.env)).any (·.1) = false := by rfl) :
    PE X (.Call (.Name "isinstance" p) [e, .Tuple [.Name "list" p1, .Name "tuple" p2] kk p3] [] pos) (tE C E (mUn gIsiLT m)) := by
  refine PE.imp (pe_callB call_isiTY hgi hi (by decide +kernel) (pa_cons h (pa_cons (pe_tup (pa_cons (pe_bltn (v := .ty "list") hgl hl (by decide +kernel) rfl) (pa_cons (pe_bltn (v := .ty "tuple") hgt ht (by decide +kernel) rfl) pa_nil))) pa_nil) hs) (by decide) (by decide) hs hpl) fun σ H Q ⟨r, ad, G, s, k⟩ => ⟨r, ad, G, s, ?_⟩
  unfold mUn at k
  unfold kE at k ⊢
  cases e : m r with
  | bad => simp only [e, bindE] at k
  | exc c fs => simp only [e, bindE] at k; exact k
  | ok d r1 =>
    simp only [e, bindE] at k
    intro v G1 H1 s1 k1 p1
    have ns : ∀ l, d ≠ .scr l := fun l z => by subst z; exact k
    have eg : gIsiLT d = some (.bl (isT .list d || isT .tuple d)) := by cases d <;> first | rfl | exact absurd rfl (ns _)
    rw [eg] at k
    refine ⟨by rw [sizeLine_eq]; decide, fun q hq => ?_⟩
    have gr : Grow G1 H1 (upd G1 q (.tup [.ty "list", .ty "tuple"])) (upd H1 q (.tup [.ty "list", .ty "tuple"])) := Grow.lay s1.hst.sub s1.hst.gnt hq (fun _ z => nomatch z)
    refine ⟨v, q, [.ty "list", .ty "tuple"], .type (tyD d), [.type "list", .type "tuple"], isT .list d || isT .tuple d, rfl, upd_same, .cons (.ty _) (.cons (.ty _) .nil), by rw [← hK]; exact tyY_of gr.sub (p1.up gr.g) ns, ?_, k _ _ _ (s1.grow gr) (k1.trans (Kp.grow gr)) (.bl _)⟩
    refine kitAny_cons (kit_ty (kit_isT .list d ns)) (fun hb => ?_) (fun hb => by rw [hb]; rfl)
    rw [hb]
    exact kitAny_cons (kit_ty (kit_isT .tuple d ns)) (fun hb2 => by rw [hb2]; exact kitAny_nil) (fun hb2 => by rw [hb2]; rfl)
/-! ### all, any -/
def blsD : List D → Option (List Bool)
  | [] => some []
  | .bl b :: l => (blsD l).map (b :: ·)
  | _ :: _ => none
theorem bls_rp {K : PySem.W.Frag} {G : Hp} : ∀ {l : List D} {bs : List Bool} {vs : List V}, blsD l = some bs → RpL K G vs l → vs = bs.map V.bl
  | [], bs, vs, e, h => by cases e; cases h; rfl
  | d :: l, bs, vs, e, h => by
    cases h with
    | cons h1 h2 =>
      cases d <;> first | (cases e; done) | skip
      rename_i b
      unfold blsD at e
      cases q : blsD l with
      | none => rw [q] at e; cases e
      | some cs =>
        rw [q] at e
        cases e
        rw [rp_bl h1, bls_rp q h2]
        rfl
def gAll (d : D) : Option D := match d with
  | .lst l => (blsD l).map fun bs => .bl (bs.all id)
  | _ => none
def gAny (d : D) : Option D := match d with
  | .lst l => (blsD l).map fun bs => .bl (bs.any id)
  | _ => none
theorem d_all : CallD C (rAll C.K) (b1 gAll) := callD1 fun G H v d1 d Q s h1 e k => by
  cases d1 <;> first | (cases e; done) | skip
  rename_i l
  unfold gAll at e
  simp only at e
  cases q : blsD l with
  | none => rw [q] at e; cases e
  | some bs =>
    rw [q] at e
    cases e
    cases h1 with
    | lst hs hp =>
      rw [bls_rp q hp] at hs
      exact ⟨_, bs, rfl, SqL.of (s.sub _ _ hs), k _ G H (Grow.refl s) (.bl _)⟩
theorem d_any : CallD C (rAny C.K) (b1 gAny) := callD1 fun G H v d1 d Q s h1 e k => by
  cases d1 <;> first | (cases e; done) | skip
  rename_i l
  unfold gAny at e
  simp only at e
  cases q : blsD l with
  | none => rw [q] at e; cases e
  | some bs =>
    rw [q] at e
    cases e
    cases h1 with
    | lst hs hp =>
      rw [bls_rp q hp] at hs
      exact ⟨_, bs, rfl, SqL.of (s.sub _ _ hs), k _ G H (Grow.refl s) (.bl _)⟩
/-! ### tuple(x), list(x) -/
def gTupOf (d : D) : Option D := match d with
  | .lst l => some (.tup l)
  | .tup l => some (.tup l)
  | _ => none
theorem d_tupOf : CallD C (fun xs H Q => ∃ p ys, xs = [.ref p] ∧ ((SqL C.K H p ys ∧ ∀ l, H l = none → Q (.ref l) (upd H l (.tup ys))) ∨ (SqT C.K H p ys ∧ Q (.ref p) H))) (b1 gTupOf) := callD1 fun G H v d1 d Q s h1 e k => by
  cases d1 <;> first | (cases e; done) | skip
  · cases e
    cases h1 with
    | tup hs hp => exact ⟨_, _, rfl, .inr ⟨SqT.of (s.sub _ _ hs), k _ G H (Grow.refl s) (.tup hs hp)⟩⟩
  · cases e
    cases h1 with
    | lst hs hp =>
      refine ⟨_, _, rfl, .inl ⟨SqL.of (s.sub _ _ hs), fun q hq => ?_⟩⟩
      exact k _ _ _ (Grow.lay s.sub s.gnt hq (fun _ z => nomatch z)) (.tup upd_same (hp.up (same_upd (s.sub.free hq))))
def gLstOf (d : D) : Option D := match d with
  | .lst l => some (.lst l)
  | .tup l => some (.lst l)
  | _ => none
theorem d_lstOf : CallD C (fun xs H Q => ∃ p ys, xs = [.ref p] ∧ (SqL C.K H p ys ∨ SqT C.K H p ys) ∧ ∀ l, H l = none → Q (.ref l) (upd H l (.lst ys))) (b1 gLstOf) := callD1 fun G H v d1 d Q s h1 e k => by
  cases d1 <;> first | (cases e; done) | skip
  · cases e
    cases h1 with
    | tup hs hp =>
      refine ⟨_, _, rfl, .inr (SqT.of (s.sub _ _ hs)), fun q hq => ?_⟩
      exact k _ _ _ (Grow.lay s.sub s.gnt hq (fun _ z => nomatch z)) (.lst upd_same (hp.up (same_upd (s.sub.free hq))))
  · cases e
    cases h1 with
    | lst hs hp =>
      refine ⟨_, _, rfl, .inl (SqL.of (s.sub _ _ hs)), fun q hq => ?_⟩
      exact k _ _ _ (Grow.lay s.sub s.gnt hq (fun _ z => nomatch z)) (.lst upd_same (hp.up (same_upd (s.sub.free hq))))
/-! ### + and * of lists, + of tuples and texts -/
def lAdd (x y : D) : Option D := match x, y with
  | .lst a, .lst b => if a.length + b.length ≤ 16777216 then some (.lst (a ++ b)) else none
  | _, _ => none
theorem d_cat : OpD C rCat lAdd := by
  intro G H v1 v2 d1 d2 d Q s h1 h2 e k
  cases d1 <;> first | (cases e; done) | skip
  cases d2 <;> first | (cases e; done) | skip
  unfold lAdd at e
  simp only at e
  split at e
  · rename_i hl
    cases e
    cases h1 with
    | lst a1 a2 =>
      cases h2 with
      | lst b1 b2 =>
        refine ⟨_, _, _, _, rfl, rfl, s.sub _ _ a1, s.sub _ _ b1, by rw [a2.length, b2.length, sizeLine_eq]; exact hl, fun q hq => ?_⟩
        exact k _ _ _ (Grow.lay s.sub s.gnt hq (fun _ z => nomatch z)) (.lst upd_same ((a2.append b2).up (same_upd (s.sub.free hq))))
  · cases e
theorem rp_rep {K : PySem.W.Frag} {G : Hp} {vs : List V} {l : List D} (h : RpL K G vs l) : ∀ n, RpL K G (List.replicate n vs).flatten (List.replicate n l).flatten
  | 0 => .nil
  | n + 1 => by
    rw [List.replicate_succ, List.replicate_succ, List.flatten_cons, List.flatten_cons]
    exact h.append (rp_rep h n)
def lRep (x y : D) : Option D := match x, y with
  | .lst a, .int n => if -(2 ^ 63) ≤ n ∧ n < 2 ^ 63 ∧ a.length * n.toNat ≤ 16777216 then some (.lst (List.replicate n.toNat a).flatten) else none
  | _, _ => none
theorem d_rep : OpD C rRep lRep := by
  intro G H v1 v2 d1 d2 d Q s h1 h2 e k
  cases d1 <;> first | (cases e; done) | skip
  cases d2 <;> first | (cases e; done) | skip
  rename_i l n
  unfold lRep at e
  simp only at e
  split at e
  · rename_i hl
    cases e
    cases h1 with
    | lst a1 a2 =>
      refine ⟨_, n, _, rfl, rp_int h2, s.sub _ _ a1, hl.1, hl.2.1, by rw [a2.length, sizeLine_eq]; exact hl.2.2, fun q hq => ?_⟩
      exact k _ _ _ (Grow.lay s.sub s.gnt hq (fun _ z => nomatch z)) (.lst upd_same ((rp_rep a2 _).up (same_upd (s.sub.free hq))))
  · cases e
/-! ### in -/
def seqD (d : D) : Option (List D) := match d with
  | .lst l => some l
  | .tup l => some l
  | _ => none
def sIn (x y : D) : Option D := match x, y with
  | .str i, .str j => some (.bl (!(Builtin.Str.occurrences j i 0 j.length 1).isEmpty))
  | _, _ => none
def sNotIn (x y : D) : Option D := match x, y with
  | .str i, .str j => some (.bl (!(!(Builtin.Str.occurrences j i 0 j.length 1).isEmpty)))
  | _, _ => none
theorem d_ins : OpD C (fun x y H Q => ∃ i j, x = .str i ∧ y = .str j ∧ Q (.bl (!(Builtin.Str.occurrences j i 0 j.length 1).isEmpty)) H) sIn := by
  intro G H v1 v2 d1 d2 d Q s h1 h2 e k
  cases d1 <;> first | (cases e; done) | skip
  cases d2 <;> first | (cases e; done) | skip
  cases e
  exact ⟨_, _, rp_str h1, rp_str h2, k _ G H (Grow.refl s) (.bl _)⟩
theorem d_notins : OpD C (fun x y H Q => ∃ i j, x = .str i ∧ y = .str j ∧ Q (.bl (!(!(Builtin.Str.occurrences j i 0 j.length 1).isEmpty))) H) sNotIn := by
  intro G H v1 v2 d1 d2 d Q s h1 h2 e k
  cases d1 <;> first | (cases e; done) | skip
  cases d2 <;> first | (cases e; done) | skip
  cases e
  exact ⟨_, _, rp_str h1, rp_str h2, k _ G H (Grow.refl s) (.bl _)⟩
/-! ### a, b = x, y -/
def sPar2 (i j : Nat) (a : MA) : MS := fun r => match a r with
  | .ok [x, y] r1 => .nx ((r1.set i (.dat x)).set j (.dat y))
  | .exc c fs => .exc c fs
  | _ => .bad
theorem s_par2 {i j : Nat} {x y : Str} {a b : Expr} {m : MA} {px py pt : Pos} {kt k2 pt2} (hN : X.N.Nodup) (ha : PA X [a, b] (tA C E m)) (hi : X.N[i]? = some x := by rfl) (hj : X.N[j]? = some y := by rfl) (hij : i ≠ j := by decide)
    (hx : X.env.scope.names.lookup x = some .local := by rfl) (hy : X.env.scope.names.lookup y = some .local := by rfl) (hc : X.calm = true := by rfl)
    (hw : swappedStores [.Tuple [.Name x px, .Name y py] kt pt] (.Tuple [a, b] k2 pt2) X.env = pure (some [x, y]) := by rfl)
    (hs : swapsWithSole [.Tuple [.Name x px, .Name y py] kt pt] (.Tuple [a, b] k2 pt2) pos.line X.env = pure false := by rfl) :
    PS X (.Assign [.Tuple [.Name x px, .Name y py] kt pt] (.Tuple [a, b] k2 pt2) pos) (tS C E (sPar2 i j m)) := by
  refine PS.imp (ps_par hc hN hi hj hij hx hy ha hw hs) fun Dn σ H ⟨r, ad, G, s, k⟩ => ⟨r, ad, G, s, ?_⟩
  unfold sPar2 at k
  unfold kA
  cases e : m r with
  | bad => simp only [e] at k; exact k.elim
  | exc c fs => simp only [e] at k; exact k
  | ok l r1 =>
    simp only [e] at k
    intro vs G1 H1 s1 k1 p1
    cases p1 with
    | nil => exact k.elim
    | cons p1 p2 =>
      cases p2 with
      | nil => exact k.elim
      | cons p2 p3 =>
        cases p3 with
        | nil => exact ⟨_, _, rfl, k ad _ G1 H1 ((s1.setD p1).setD p2) k1.g⟩
        | cons _ _ => exact k.elim
def sPar3 (i j l : Nat) (a : MA) : MS := fun r => match a r with
  | .ok [x, y, z] r1 => .nx (((r1.set i (.dat x)).set j (.dat y)).set l (.dat z))
  | .exc c fs => .exc c fs
  | _ => .bad
/-! ### range, signs -/
def rngD (lo : Int) (n : Nat) : List D := (List.range n).map fun i => D.int (lo + (i : Nat))
def mRng1 (a : MA) : MA := fun r => match a r with
  | .ok [.int j] r1 => if -(2 ^ 62) ≤ j ∧ j < 2 ^ 62 then .ok (rngD 0 j.toNat) r1 else .bad
  | .exc c fs => .exc c fs
  | _ => .bad
theorem wk_rng {G : Hp} {lo : Int} {n : Nat} : WkD C G (Itr lo n) (rngD lo n) := by
  refine ⟨?_⟩
  have hl : (rngD lo n).length = n := by unfold rngD; simp
  rw [hl]
  refine Walk.mono walk_range (fun H q => trivial) fun i H x H' hi q y => ?_
  obtain ⟨rfl, rfl⟩ := y
  intro G1 g1 s1 n1
  refine ⟨G1, Grow.refl2 s1 n1, .int (lo + (i : Nat)), ?_, .int _⟩
  unfold rngD
  rw [List.getElem?_map, List.getElem?_range hi]
  rfl
theorem i_rng1 {tg a : Expr} {m : MA} {p : Pos} (hm : X.mg "range" = none) (ha : PA X [a] (tA C E m)) (hg : Gl X "range" := by rfl) (hs : starEach [a] X.env = [(false, eval a X.env)] := by rfl) : PI X tg (.Call (.Name "range" p) [a] [] pos) (tI C E (mRng1 m)) := by
  refine PI.imp (pi_range1 hg hm ha hs) fun σ H R ⟨r, ad, G, s, k⟩ => ⟨r, ad, G, s, ?_⟩
  unfold mRng1 at k
  unfold kA
  unfold kI at k
  cases e : m r with
  | bad => simp only [e] at k
  | exc c fs => simp only [e] at k; exact k
  | ok l r1 =>
    simp only [e] at k
    intro vs G1 H1 s1 k1 p1
    cases p1 with
    | nil => exact k.elim
    | cons p1 p2 =>
      rename_i v vs' d ds
      cases p2 with
      | nil =>
        cases d <;> first | exact k.elim | skip
        rename_i j
        simp only at k
        split at k
        · rename_i heq
          split at heq
          · rename_i hb
            injection heq with q1 q2
            subst q1 q2
            exact ⟨j, by rw [rp_int p1], hb.1, hb.2, k _ G1 H1 s1 k1 wk_rng⟩
          · cases heq
        · rename_i heq
          split at heq <;> cases heq
        · exact k.elim
      | cons _ _ =>
        cases d <;> exact k.elim
def signD (z : Str) : List D := z.cps.toList.map fun c => D.str ⟨#[c]⟩
def mSigns (m : ME) : MA := fun r => match m r with
  | .ok (.str z) r1 => .ok (signD z) r1
  | .exc c fs => .exc c fs
  | _ => .bad
theorem wk_str {G : Hp} {z : Str} : WkD C G (Its z) (signD z) := by
  refine ⟨?_⟩
  have hl : (signD z).length = z.cps.size := by unfold signD; simp
  rw [hl]
  refine Walk.mono walk_str (fun H q => trivial) fun i H x H' hi q y => ?_
  obtain ⟨rfl, c, e1, rfl⟩ := y
  intro G1 g1 s1 n1
  refine ⟨G1, Grow.refl2 s1 n1, .str ⟨#[c]⟩, ?_, .str _⟩
  unfold signD
  rw [List.getElem?_map]
  have e2 : z.cps.toList[i]? = some c := by simpa using e1
  rw [e2]
  rfl
theorem i_str {tg e : Expr} {m : ME} (h : PE X e (tE C E m)) : PI X tg e (tI C E (mSigns m)) := by
  refine PI.imp (pi_str h) fun σ H R ⟨r, ad, G, s, k⟩ => ⟨r, ad, G, s, ?_⟩
  unfold mSigns at k
  unfold kI at k
  unfold kE
  cases e : m r with
  | bad => simp only [e] at k
  | exc c fs => simp only [e] at k; exact k
  | ok d r1 =>
    simp only [e] at k
    cases d with
    | str z =>
      intro v G1 H1 s1 k1 p1
      exact ⟨z, rp_str p1, k _ G1 H1 s1 k1 wk_str⟩
    | _ => exact k.elim
end
end DL

/-! in, index, dicts. -/
namespace DL
open PySem PySem.Spec PyProof.Rows L2
/-! ### in a list or tuple, data of any depth -/
def itemsD (d : D) : Option (List D) := match d with
  | .lst l => some l
  | .tup l => some l
  | .cst l => some l
  | _ => none
def gIn (x y : D) : Option D := match itemsD y with
  | some l => if okEq x && okEq y then some (.bl (l.any fun z => eqB z x)) else none
  | none => none
def gNotIn (x y : D) : Option D := match itemsD y with
  | some l => if okEq x && okEq y then some (.bl (!l.any fun z => eqB z x)) else none
  | none => none
theorem toPs_any (l : List D) (x : D) : (toPs l).any (fun z => PyData.eqv z (toP x)) = l.any fun z => eqB z x := by
  induction l with
  | nil => rfl
  | cons d l ih =>
    show (PyData.eqv (toP d) (toP x) || (toPs l).any fun z => PyData.eqv z (toP x)) = (eqB d x || l.any fun z => eqB z x)
    rw [ih]
    rfl
section
variable {X : Cx}
def rInE (K : PySem.W.Frag) (neg : Bool) : R2 := fun x y H Q => ∃ d ds, Dp K H x d ∧ (Dp K H y (.list ds) ∨ Dp K H y (.tuple ds)) ∧ SeqAt.shaped d = true ∧ PyData.canLayAll0 ds = true ∧ Q (.bl (if neg then !ds.any fun z => PyData.eqv z d else ds.any fun z => PyData.eqv z d)) H
theorem room_in2 {A : Around} {ds : List PyData} {d : PyData} (h : SeqAt.shaped d = true) (hu : A.units + 65 < cLine) : A.units + 1 + min (PyData.depthAll ds) d.depth < cLine := by
  have h1 := SeqAt.depth_of_shaped h
  have h2 : min (PyData.depthAll ds) d.depth ≤ d.depth := Nat.min_le_right _ _
  omega
theorem op_inE (hu : X.A.units + 65 < cLine) : OpR X (compareOp .In) (rInE X.K false) := by
  intro pins s σ H x y v u Q I rx ry h
  obtain ⟨d, ds, hd, he, sd, se, q⟩ := h
  obtain ⟨as, r1⟩ := Dp.reads I d x v hd rx
  rcases he with he | he
  · obtain ⟨bs, r2⟩ := Dp.reads I (.list ds) y u he ry
    exact SeqAt.in_list_reads r2 r1 se (SeqAt.canLay_of_shaped sd) (room_in2 sd hu) ⟨.bl _, H, I, rfl, q⟩
  · obtain ⟨bs, r2⟩ := Dp.reads I (.tuple ds) y u he ry
    exact SeqAt.in_tuple_reads r2 r1 se (SeqAt.canLay_of_shaped sd) (room_in2 sd hu) ⟨.bl _, H, I, rfl, q⟩
theorem op_notInE (hu : X.A.units + 65 < cLine) : OpR X (compareOp .NotIn) (rInE X.K true) := by
  intro pins s σ H x y v u Q I rx ry h
  obtain ⟨d, ds, hd, he, sd, se, q⟩ := h
  obtain ⟨as, r1⟩ := Dp.reads I d x v hd rx
  rcases he with he | he
  · obtain ⟨bs, r2⟩ := Dp.reads I (.list ds) y u he ry
    exact SeqAt.notIn_list_reads r2 r1 se (SeqAt.canLay_of_shaped sd) (room_in2 sd hu) ⟨.bl _, H, I, rfl, q⟩
  · obtain ⟨bs, r2⟩ := Dp.reads I (.tuple ds) y u he ry
    exact SeqAt.notIn_tuple_reads r2 r1 se (SeqAt.canLay_of_shaped sd) (room_in2 sd hu) ⟨.bl _, H, I, rfl, q⟩
end
theorem u65 {k : Nat} {A : Around} (r : Room k A) : A.units + 65 < cLine := by have := r.un; omega
section
variable {C : Fc}
theorem items_dp {K : PySem.W.Frag} {G H : Hp} (e : Same G H) {v : V} {d : D} {l : List D} (hi : itemsD d = some l) (o : okEq d = true) (h : Rp K G v d) : (Dp K H v (.list (toPs l)) ∨ Dp K H v (.tuple (toPs l))) ∧ PyData.canLayAll0 (toPs l) = true := by
  have h1 := dp_of e d v (SeqAt.canLay_of_shaped o) h
  have h2 := SeqAt.canLay_of_shaped o
  cases d <;> cases hi
  · exact ⟨.inr h1, by simpa [toP, PyData.canLay0] using h2⟩
  · exact ⟨.inl h1, by simpa [toP, PyData.canLay0] using h2⟩
  · exact ⟨.inr h1, by simpa [toP, PyData.canLay0] using h2⟩
theorem d_in : OpD C (rInE C.K false) gIn := by
  intro G H v1 v2 d1 d2 d Q s h1 h2 e k
  unfold gIn at e
  split at e
  · rename_i l hi
    split at e
    · rename_i ho
      obtain ⟨o1, o2⟩ := Bool.and_eq_true_iff.mp ho
      cases e
      obtain ⟨a, b⟩ := items_dp s.sub hi o2 h2
      refine ⟨toP d1, toPs l, dp_of s.sub d1 v1 (SeqAt.canLay_of_shaped o1) h1, a, o1, b, ?_⟩
      rw [if_neg Bool.false_ne_true, toPs_any]
      exact k _ G H (Grow.refl s) (.bl _)
    · cases e
  · cases e
theorem d_notIn : OpD C (rInE C.K true) gNotIn := by
  intro G H v1 v2 d1 d2 d Q s h1 h2 e k
  unfold gNotIn at e
  split at e
  · rename_i l hi
    split at e
    · rename_i ho
      obtain ⟨o1, o2⟩ := Bool.and_eq_true_iff.mp ho
      cases e
      obtain ⟨a, b⟩ := items_dp s.sub hi o2 h2
      refine ⟨toP d1, toPs l, dp_of s.sub d1 v1 (SeqAt.canLay_of_shaped o1) h1, a, o1, b, ?_⟩
      rw [if_pos rfl, toPs_any]
      exact k _ G H (Grow.refl s) (.bl _)
    · cases e
  · cases e
end
/-! ### x.index(y), x a written tuple of texts or a list -/
def strsD : List D → Option (List Str)
  | [] => some []
  | .str s :: l => (strsD l).map (s :: ·)
  | _ :: _ => none
theorem strs_rp {K : PySem.W.Frag} {G : Hp} : ∀ {l : List D} {bs : List Str} {vs : List V}, strsD l = some bs → RpL K G vs l → vs = bs.map V.str
  | [], bs, vs, e, h => by cases e; cases h; rfl
  | d :: l, bs, vs, e, h => by
    cases h with
    | cons h1 h2 =>
      cases d <;> first | (cases e; done) | skip
      rename_i b
      unfold strsD at e
      cases q : strsD l with
      | none => rw [q] at e; cases e
      | some cs =>
        rw [q] at e
        cases e
        rw [rp_str h1, strs_rp q h2]
        rfl
def gTIndex (x y : D) : Option D := match x, y with
  | .cst l, .str z => (strsD l).bind fun ys => (ys.idxOf? z).map fun j => .int (j : Nat)
  | _, _ => none
def gLIndex (x y : D) : Option D := match x, y with
  | .lst l, .str z => if okEq (.lst l) && okEq (.str z) then (strsD l).bind fun ys => (ys.idxOf? z).map fun j => .int (j : Nat) else none
  | _, _ => none
theorem idx_first {ys : List Str} {z : Str} {j : Nat} (h : ys.idxOf? z = some j) : ys[j]? = some z ∧ ∀ m, m < j → ys[m]? ≠ some z := by
  unfold List.idxOf? at h
  rw [List.findIdx?_eq_some_iff_getElem] at h
  obtain ⟨hj, h1, h2⟩ := h
  refine ⟨?_, fun m hm q => ?_⟩
  · rw [List.getElem?_eq_getElem hj]
    have := beq_iff_eq.mp h1
    rw [this]
  · have := h2 m hm
    obtain ⟨hml, e⟩ := List.getElem?_eq_some_iff.mp q
    rw [e] at this
    simp at this
/-- an argument that raises is not served -/
def noX (m : ME) : ME := fun r => match m r with
  | .exc _ _ => .bad
  | x => x
section
variable {X : Cx} {C : Fc} {E : XK} {pos : Pos}
/-- x.m(e), x of a built-in type T, nothing changed -/
theorem e_bm {T id : String} {name : Str} {q : V → List V → Hp → VK → Prop} {g : D → D → Option D} {o e : Expr} {mo me : ME} {apos cpos : Pos} (pa : PlainAttrs T) (slot : Slot T name id) (hty : typeOf (.builtin id) = pure (.type "method_descriptor")) (hm : MtR X id q)
    (hg : OpD C (fun x y H Q => q x [y] H Q) g) (ht : ∀ G H v x, Same G H → Rp C.K G v x → (∃ y d, g x y = some d) → tyV X.K T v H) (ho : PE X o (tE C E mo)) (he : PE X e (tE C E me))
    (hbase : attributeBase o name X.env (eval o X.env) = eval o X.env := by rfl)
    (hfew : ((backTo cpos (starEach [e] X.env)).all (fun x => !x.1) && (backToKw cpos (keywordEach [] X.env)).all (fun x => x.1.isSome)
      && decide ([e].length + ([] : List Keyword).length + (if ([] : List Keyword).isEmpty then 0 else 1) < 30)) = true := by rfl)
    (hline : (apos.endLine == cpos.line) = true := by rfl) (hs : starEach [e] X.env = (false, eval e X.env) :: starEach [] X.env := by rfl) (hplain : (backTo cpos (starEach [] X.env)).any (·.1) = false := by rfl) :
    PE X (.Call (.Attribute o name apos) [e] [] cpos) (tE C E (mOp g mo (noX me))) := by
  refine PE.imp (pe_bm pa slot hty hm ho (pa_cons he pa_nil hs) hbase hfew hline hs hplain) fun σ H Q ⟨r, ad, G, s, k⟩ => ⟨r, ad, G, s, ?_⟩
  unfold mOp noX at k
  unfold kE at k ⊢
  cases ea : mo r with
  | bad => simp only [ea, bindE] at k
  | exc c fs => simp only [ea, bindE] at k; exact k
  | ok x r1 =>
    simp only [ea, bindE] at k
    intro v G1 H1 s1 k1 p1
    cases eb : me r1 with
    | bad => simp only [eb] at k
    | exc c fs => simp only [eb] at k
    | ok y r2 =>
      simp only [eb] at k
      cases eg : g x y with
      | none => rw [eg] at k; exact k.elim
      | some d =>
        rw [eg] at k
        refine ⟨ht G1 H1 v x s1.hst.sub p1 ⟨y, d, eg⟩, r1, ad, G1, s1, ?_⟩
        unfold kE
        rw [eb]
        intro u G2 H2 s2 k2 p2
        exact hg G2 H2 v u x y d Q s2.hst (p1.up k2.g) p2 eg fun w G3 H3 gr p3 => k w G3 H3 (s2.grow gr) ((k1.trans k2).trans (Kp.grow gr)) p3
theorem d_tindex : OpD C (fun x y H Q => ∃ p, ∃ ys : List Str, ∃ z j, x = .ref p ∧ [y] = [.str z] ∧ SqT C.K H p (ys.map V.str) ∧ ys[j]? = some z ∧ (∀ m, m < j → ys[m]? ≠ some z) ∧ Q (.int (j : Nat)) H) gTIndex := by
  intro G H v1 v2 d1 d2 d Q s h1 h2 e k
  cases d1 <;> first | (cases e; done) | skip
  cases d2 <;> first | (cases e; done) | skip
  rename_i l z
  unfold gTIndex at e
  simp only at e
  cases eq : strsD l with
  | none => rw [eq] at e; cases e
  | some ys =>
    rw [eq] at e
    simp only [Option.bind_some] at e
    cases ej : ys.idxOf? z with
    | none => rw [ej] at e; cases e
    | some j =>
      rw [ej] at e
      cases e
      cases h1 with
      | cst hs hp =>
        obtain ⟨a, b⟩ := idx_first ej
        refine ⟨_, ys, z, j, rfl, by rw [rp_str h2], ?_, a, b, k _ G H (Grow.refl s) (.int _)⟩
        rw [← strs_rp eq hp]
        exact SqT_same s.sub hs
/-- KINDS.index(x), KINDS a tuple of texts of the top -/
theorem e_tix {x : Str} {e : Expr} {me : ME} {p apos cpos : Pos} {l : List D} (h : ∃ a o, X.mg x = some (.ref a) ∧ X.K.lookup a = some o ∧ o.cls = .type "tuple" ∧ o.dict = none ∧ ∀ G, Rp C.K G (.ref a) (.cst l)) (he : PE X e (tE C E me)) (hK : C.K = X.K := by rfl) (hg : Gl X x := by rfl) (hd : (x == ("__debug__" : Str)) = false := by decide)
    (hbase : attributeBase (.Name x p) "index" X.env (eval (.Name x p) X.env) = eval (.Name x p) X.env := by rfl)
    (hfew : ((backTo cpos (starEach [e] X.env)).all (fun x => !x.1) && (backToKw cpos (keywordEach [] X.env)).all (fun x => x.1.isSome)
      && decide ([e].length + ([] : List Keyword).length + (if ([] : List Keyword).isEmpty then 0 else 1) < 30)) = true := by rfl)
    (hline : (apos.endLine == cpos.line) = true := by rfl) (hs : starEach [e] X.env = (false, eval e X.env) :: starEach [] X.env := by rfl) (hplain : (backTo cpos (starEach [] X.env)).any (·.1) = false := by rfl) :
    PE X (.Call (.Attribute (.Name x p) "index" apos) [e] [] cpos) (tE C E (mOp gTIndex (mC (.cst l)) (noX me))) := by
  obtain ⟨a, o, hm, hk, hc, hdd, hr⟩ := h
  have hd2 : OpD C (fun x y H Q => ∃ p, ∃ ys : List Str, ∃ z j, x = .ref p ∧ [y] = [.str z] ∧ SqT X.K H p (ys.map V.str) ∧ ys[j]? = some z ∧ (∀ m, m < j → ys[m]? ≠ some z) ∧ Q (.int (j : Nat)) H) gTIndex := by
    have := d_tindex (C := C)
    rw [hK] at this
    exact this
  refine PE.imp (pe_bm PySem.F.plainAttrs_tuple PySem.F.slot_tuple_index PySem.F.type_tuple_index mt_tup_index (pe_glob (v := .ref a) hg hm rfl hd) (pa_cons he pa_nil hs) hbase hfew hline hs hplain) fun σ H Q ⟨r, ad, G, s, k⟩ => ?_
  unfold mOp noX mC at k
  unfold kE at k
  simp only [bindE] at k
  refine ⟨.inr (.inl ⟨rfl, o, hk, hc, hdd⟩), r, ad, G, s, ?_⟩
  unfold kE
  cases eb : me r with
  | bad => simp only [eb] at k
  | exc c fs => simp only [eb] at k
  | ok y r2 =>
    simp only [eb] at k
    intro u G2 H2 s2 k2 p2
    cases eg : gTIndex (.cst l) y with
    | none => rw [eg] at k; exact k.elim
    | some d =>
      rw [eg] at k
      exact hd2 G2 H2 (.ref a) u (.cst l) y d Q s2.hst (hr G2) p2 eg fun w G3 H3 gr p3 => k w G3 H3 (s2.grow gr) (k2.trans (Kp.grow gr)) p3
theorem eqv_str (a b : Str) : PyData.eqv (.str a) (.str b) = (a == b) := by simp [PyData.eqv]
theorem strs_toPs : ∀ {l : List D} {ys : List Str}, strsD l = some ys → toPs l = ys.map PyData.str
  | [], ys, e => by cases e; rfl
  | d :: l, ys, e => by
    cases d <;> first | (cases e; done) | skip
    unfold strsD at e
    cases q : strsD l with
    | none => rw [q] at e; cases e
    | some cs =>
      rw [q] at e
      cases e
      show PyData.str _ :: toPs l = _
      rw [strs_toPs q]
      rfl
theorem d_lindex : OpD C (fun x y H Q => rIndexD C.K x [y] H Q) gLIndex := by
  intro G H v1 v2 d1 d2 d Q s h1 h2 e k
  cases d1 <;> first | (cases e; done) | skip
  cases d2 <;> first | (cases e; done) | skip
  rename_i l z
  unfold gLIndex at e
  simp only at e
  have ho : (okEq (.lst l) && okEq (.str z)) = true := by
    cases q : (okEq (.lst l) && okEq (.str z)) with
    | true => rfl
    | false => rw [q] at e; cases e
  rw [if_pos ho] at e
  obtain ⟨o1, o2⟩ := Bool.and_eq_true_iff.mp ho
  cases eq : strsD l with
  | none => rw [eq] at e; cases e
  | some ys =>
    rw [eq] at e
    simp only [Option.bind_some] at e
    cases ej : ys.idxOf? z with
    | none => rw [ej] at e; cases e
    | some j =>
      rw [ej] at e
      cases e
      have sl : SeqAt.shaped (.list (ys.map PyData.str)) = true := by
        rw [← strs_toPs eq]; exact o1
      cases h1 with
      | lst hs hp =>
        obtain ⟨a, b⟩ := idx_first ej
        refine ⟨_, v2, .str z, ys.map PyData.str, j, .str z, rfl, rfl, ?_, by rw [rp_str h2]; exact .str z, sl, o2, by rw [List.getElem?_map, a]; rfl, by rw [eqv_str]; simp, fun m z' hm hz => ?_, k _ G H (Grow.refl s) (.int _)⟩
        · rw [← strs_toPs eq]
          refine .lst (SqL.of (s.sub _ _ hs)) (dps_of s.sub l _ ?_ hp)
          simpa [toP, PyData.canLay0] using SeqAt.canLay_of_shaped o1
        · rw [List.getElem?_map] at hz
          cases ey : ys[m]? with
          | none => rw [ey] at hz; cases hz
          | some y =>
            rw [ey] at hz
            cases hz
            rw [eqv_str]
            cases hb : (y == z) with
            | false => rfl
            | true => exact absurd (by rw [ey, beq_iff_eq.mp hb]) (b m hm)
theorem ty_lst {G H : Hp} {v : V} {x : D} (e : Same G H) (h : Rp C.K G v x) (hx : ∃ y d, gLIndex x y = some d) : tyV X.K "list" v H := by
  obtain ⟨y, d, hx⟩ := hx
  cases x <;> first | (cases hx; done) | skip
  cases h with
  | lst hs _ => exact .inl ⟨rfl, _, SqL.of (e _ _ hs)⟩
end
end DL

/-! Dicts. -/
namespace DL
open PySem PySem.Spec PyProof.Rows L2
def kD (d : D) : Option Key := match d with
  | .int i => some (.inl i)
  | .str s => some (.inr s)
  | _ => none
def ksD : List D → Option (List Key)
  | [] => some []
  | d :: l => (kD d).bind fun k => (ksD l).map (k :: ·)
/-- a tuple of ints and texts, as a key -/
def tkD (d : D) : Option (List Key) := match d with
  | .tup l => ksD l
  | _ => none
theorem kD_key (k : Key) : kD (keyD k) = some k := by cases k <;> rfl
theorem ksD_keys : ∀ ks : List Key, ksD (ks.map keyD) = some ks
  | [] => rfl
  | k :: ks => by
    show (kD (keyD k)).bind (fun k => (ksD (ks.map keyD)).map (k :: ·)) = _
    rw [kD_key, ksD_keys ks]
    rfl
theorem kD_rp {K : PySem.W.Frag} {G : Hp} {d : D} {k : Key} {v : V} (e : kD d = some k) (h : Rp K G v d) : v = kV k ∧ d = keyD k := by
  cases d <;> first | (cases e; done) | skip
  · cases e; exact ⟨rp_int h, rfl⟩
  · cases e; exact ⟨rp_str h, rfl⟩
theorem ksD_rp {K : PySem.W.Frag} {G : Hp} : ∀ {l : List D} {ks : List Key} {vs : List V}, ksD l = some ks → RpL K G vs l → vs = ks.map kV ∧ l = ks.map keyD
  | [], ks, vs, e, h => by cases e; cases h; exact ⟨rfl, rfl⟩
  | d :: l, ks, vs, e, h => by
    cases h with
    | cons h1 h2 =>
      unfold ksD at e
      cases q1 : kD d with
      | none => rw [q1] at e; cases e
      | some k =>
        rw [q1] at e
        simp only [Option.bind_some] at e
        cases q2 : ksD l with
        | none => rw [q2] at e; cases e
        | some ks' =>
          rw [q2] at e
          cases e
          obtain ⟨a, b⟩ := kD_rp q1 h1
          obtain ⟨c, d'⟩ := ksD_rp q2 h2
          exact ⟨by rw [a, c]; rfl, by rw [b, d']; rfl⟩
def dLook (f : D → Bool) (es : List (D × D)) : Option D := (es.find? fun e => f e.1).map (·.2)
def dPut (f : D → Bool) (kd : D) (es : List (D × D)) (d : D) : List (D × D) :=
  if es.any (fun e => f e.1) then es.map (fun e => if f e.1 then (e.1, d) else e) else es ++ [(kd, d)]
def isTK (ks : List Key) (d : D) : Bool := decide (tkD d = some ks)
theorem isTK_key (ks ks' : List Key) : isTK ks (.tup (ks'.map keyD)) = decide (ks' = ks) := by
  unfold isTK
  show decide (ksD (ks'.map keyD) = some ks) = _
  rw [ksD_keys]
  by_cases h : ks' = ks
  · rw [h]; simp
  · rw [decide_eq_false h, decide_eq_false (fun q => h (Option.some.inj q))]
theorem look_T {K : PySem.W.Frag} {G : Hp} {ks : List Key} : ∀ {es : List (D × D)} {kvs : List (List Key × V)}, RpT K G kvs es →
    (dLook (isTK ks) es = none ∧ valV kvs ks = none) ∨ ∃ d v, dLook (isTK ks) es = some d ∧ valV kvs ks = some v ∧ Rp K G v d
  | _, _, .nil => .inl ⟨rfl, rfl⟩
  | _, _, .cons (ks := ks') (v := v) (d := d) (r := rr) h1 h2 => by
    unfold dLook
    rw [List.find?_cons]
    simp only [isTK_key]
    by_cases h : ks' = ks
    · rw [decide_eq_true h]
      exact .inr ⟨d, v, rfl, valV_pos h, h1⟩
    · rw [decide_eq_false h]
      have q : valV ((ks', v) :: rr) ks = valV rr ks := by
        unfold valV
        rw [List.find?_cons]
        simp [h]
      rw [q]
      exact look_T h2
theorem any_T {K : PySem.W.Frag} {G : Hp} {ks : List Key} : ∀ {es : List (D × D)} {kvs : List (List Key × V)}, RpT K G kvs es → es.any (fun e => isTK ks e.1) = kvs.any fun kv => decide (kv.1 = ks)
  | _, _, .nil => rfl
  | _, _, .cons _ h2 => by
    rw [List.any_cons, List.any_cons, any_T h2, isTK_key]
theorem map_T {K : PySem.W.Frag} {G : Hp} {ks : List Key} {v : V} {d : D} (h : Rp K G v d) : ∀ {es : List (D × D)} {kvs : List (List Key × V)}, RpT K G kvs es → RpT K G (kvs.map fun kv => if kv.1 = ks then (kv.1, v) else kv) (es.map fun e => if isTK ks e.1 then (e.1, d) else e)
  | _, _, .nil => .nil
  | _, _, .cons (ks := ks') h1 h2 => by
    rw [List.map_cons, List.map_cons]
    simp only [isTK_key]
    by_cases q : ks' = ks
    · rw [if_pos q, if_pos (decide_eq_true q)]
      exact .cons h (map_T h h2)
    · rw [if_neg q, if_neg (by rw [decide_eq_false q]; exact Bool.false_ne_true)]
      exact .cons h1 (map_T h h2)
theorem RpT.snoc {K : PySem.W.Frag} {G : Hp} {ks : List Key} {v : V} {d : D} (h : Rp K G v d) : ∀ {es : List (D × D)} {kvs : List (List Key × V)}, RpT K G kvs es → RpT K G (kvs ++ [(ks, v)]) (es ++ [(.tup (ks.map keyD), d)])
  | _, _, .nil => .cons h .nil
  | _, _, .cons h1 h2 => .cons h1 (h2.snoc h)
theorem put_T {K : PySem.W.Frag} {G : Hp} {ks : List Key} {v : V} {d : D} (h : Rp K G v d) {es : List (D × D)} {kvs : List (List Key × V)} (p : RpT K G kvs es) : RpT K G (putK kvs ks v) (dPut (isTK ks) (.tup (ks.map keyD)) es d) := by
  unfold putK dPut
  rw [any_T p]
  split
  · exact map_T h p
  · exact p.snoc h
theorem RpT.length {K : PySem.W.Frag} {G : Hp} : ∀ {es : List (D × D)} {kvs : List (List Key × V)}, RpT K G kvs es → kvs.length = es.length
  | _, _, .nil => rfl
  | _, _, .cons _ h => congrArg (· + 1) h.length
/-- what a still or own dict of tuple keys gives -/
theorem dget_T {K : PySem.W.Frag} {G H : Hp} {a : Addr} {kvs : List (List Key × V)} {es : List (D × D)} {l : List D} {ks : List Key} {u : V} (sub : Same G H) (e : Rd H a (.dT kvs)) (p : RpT K G kvs es) (hk : ksD l = some ks) (hu : Rp K G u (.tup l)) :
    ∃ o, DGet H a u o ∧ ((dLook (isTK ks) es = none ∧ o = none) ∨ ∃ d v, dLook (isTK ks) es = some d ∧ o = some v ∧ Rp K G v d) := by
  cases hu with
  | tup hs hl =>
    obtain ⟨q1, q2⟩ := ksD_rp hk hl
    refine ⟨valV kvs ks, .inr ⟨kvs, ks, _, e, rfl, by rw [sub _ _ hs, q1], rfl⟩, ?_⟩
    rcases look_T (ks := ks) p with h | h
    · exact .inl h
    · obtain ⟨d, v, h1, h2, h3⟩ := h
      exact .inr ⟨d, v, h1, h2, h3⟩
section
variable {X : Cx} {C : Fc} {E : XK} {pos : Pos}
/-! ### x = {} -/
def sNewDT (i : Nat) : MS := fun r => .nx (r.set i (.ownD true []))
theorem s_newDT {i : Nat} {x : Str} {pos' p : Pos} (hN : X.N.Nodup) (hi : X.N[i]? = some x := by rfl) (hx : Loc X.env.scope x := by first | exact Or.inl rfl | exact Or.inr rfl)
    (hs : swapsWith (.Dict [] [] p) (some (.Name x pos')) pos.line X.env = pure false := by rfl) (hf : X.fn x = true ∨ X.env.scope.names.lookup x = some .local := by first | exact .inl rfl | exact .inr rfl | assumption) :
    PS X (.Assign [.Name x pos'] (.Dict [] [] p) pos) (tS C E (sNewDT i)) := by
  refine PS.imp (ps_set hN hi hx pe_dnewT hs hf) fun Dn σ H ⟨r, ad, G, s, k⟩ => ?_
  intro q hq
  have gr : Grow G H G (upd H q (.dT [])) := Grow.layH s.hst.sub s.hst.gnt hq
  have s1 := s.grow gr
  have np : ∀ j, isOwn r j → ad j ≠ q := fun j hj z => s.own_ne hj (by rw [z]; exact hq)
  exact k _ _ G _ (s1.setN np (s.hst.sub.free hq) (new_H0 s hq) (.inr ⟨true, [], rfl, .inr ⟨rfl, [], upd_same, .nil⟩⟩)) (Same.refl _)
/-! ### x[k] = e -/
def sDPut (i : Nat) (mk mv : ME) : MS := fun r => match mv r with
  | .ok d r1 => (match r1[i]? with
    | some (.ownD _ _) => (match mk r1 with
      | .ok (.tup l) r2 => (match r2[i]?, ksD l with
        | some (.ownD true es), some ks => if es.length < 16777216 then .nx (r2.set i (.ownD true (dPut (isTK ks) (.tup l) es d))) else .bad
        | _, _ => .bad)
      | .exc c fs => .exc c fs
      | _ => .bad)
    | _ => .bad)
  | .exc c fs => .exc c fs
  | .bad => .bad
theorem s_dput {i : Nat} {x : Str} {ei e : Expr} {mi m : ME} {p p2 : Pos} (hu : X.A.units + 1 < cLine) (hi : PE X ei (tE C E mi)) (he : PE X e (tE C E m)) (hN : X.N[i]? = some x := by rfl) (hv : Vis X.env.scope x := by first | exact Or.inl rfl | exact Or.inr (Or.inl rfl) | exact Or.inr (Or.inr rfl))
    (hd : (x == ("__debug__" : Str)) = false := by decide) (hcd : (x == ("__classdict__" : Str)) = false := by decide)
    (hs : swapsWith e (some (.Subscript (.Name x p) ei p2)) pos.line X.env = pure false := by rfl) :
    PS X (.Assign [.Subscript (.Name x p) ei p2] e pos) (tS C E (sDPut i mi m)) := by
  refine PS.imp (ps_dput hu (pe_var hN hv hd hcd) hi he hs) fun Dn σ H ⟨r, ad, G, s, k⟩ => ⟨r, ad, G, s, ?_⟩
  unfold sDPut at k
  unfold kE
  cases em : m r with
  | bad => simp only [em] at k; exact k.elim
  | exc c fs => simp only [em] at k; exact k
  | ok d r1 =>
    simp only [em] at k
    intro v G1 H1 s1 k1 p1
    split at k
    · rename_i t0 l0 e0
      obtain ⟨z1, _⟩ := s1.ownD i t0 l0 e0
      refine ⟨_, z1, r1, ad, G1, s1, ?_⟩
      unfold kE
      cases ei : mi r1 with
      | bad => simp only [ei] at k; exact k.elim
      | exc c fs => simp only [ei] at k; exact k
      | ok dk r2 =>
        simp only [ei] at k
        cases dk with
        | tup l =>
          intro vk G2 H2 s2 k2 p2
          simp only at k
          split at k
          · rename_i es ks er ek
            split at k
            · rename_i hlen
              obtain ⟨y1, y2, y3, y4⟩ := s2.ownD i true es er
              rcases y4 with ⟨z, _⟩ | ⟨_, kvs, y4, y5⟩
              · cases z
              · cases p2 with
                | tup hs hl =>
                  obtain ⟨q1, q2⟩ := ksD_rp ek hl
                  refine ⟨_, _, rfl, DPut.t (k := ks) y4 (by rw [← q1]; exact s2.hst.sub _ _ hs) (by rw [y5.length, sizeLine_eq]; exact hlen), ?_⟩
                  rw [q2] at k
                  exact k ad σ G2 _ (s2.putDi er (.inr ⟨rfl, _, upd_same, put_T (p1.up k2.g) y5⟩)) (k1.g.trans k2.g)
            · exact k.elim
          · exact k.elim
        | _ => exact k.elim
    · exact k.elim
/-! ### x.get(k, d) of an own dict -/
def mDGet2 (i : Nat) (mk md : ME) : ME := fun r => match r[i]? with
  | some (.ownD true _) => (match mk r with
    | .ok (.tup l) r1 => (match r1[i]? with
      | some (.ownD true _) => (match md r1 with
        | .ok z r2 => (match r2[i]?, ksD l with
          | some (.ownD true es), some ks => .ok ((dLook (isTK ks) es).getD z) r2
          | _, _ => .bad)
        | .exc c fs => .exc c fs
        | .bad => .bad)
      | _ => .bad)
    | .exc c fs => .exc c fs
    | _ => .bad)
  | _ => .bad
theorem e_dget2 {i : Nat} {x : Str} {e f : Expr} {mk md : ME} {p apos cpos : Pos} (hu : X.A.units + 1 < cLine) (he : PE X e (tE C E mk)) (hf : PE X f (tE C E md)) (hN : X.N[i]? = some x := by rfl) (hv : Vis X.env.scope x := by first | exact Or.inl rfl | exact Or.inr (Or.inl rfl) | exact Or.inr (Or.inr rfl))
    (hd : (x == ("__debug__" : Str)) = false := by decide) (hcd : (x == ("__classdict__" : Str)) = false := by decide) (m2 : M2 X (.Name x p) "get" apos e f cpos := by exact ⟨rfl, rfl, rfl, rfl⟩) :
    PE X (.Call (.Attribute (.Name x p) "get" apos) [e, f] [] cpos) (tE C E (mDGet2 i mk md)) := by
  refine PE.imp (pe_dget2 hu (pe_var hN hv hd hcd) he hf m2) fun σ H Q ⟨r, ad, G, s, k⟩ => ?_
  unfold mDGet2 at k
  split at k
  · rename_i es0 e0
    obtain ⟨z1, _, _, z4⟩ := s.ownD i true es0 e0
    have isd : IsD H (ad i) := by
      rcases z4 with ⟨_, _, z, _⟩ | ⟨_, _, z, _⟩
      · exact .inl ⟨_, .inl z⟩
      · exact .inr ⟨_, .inl z⟩
    refine ⟨_, z1, _, rfl, isd, r, ad, G, s, ?_⟩
    unfold kE at k ⊢
    cases em : mk r with
    | bad => simp only [em] at k
    | exc c fs => simp only [em] at k; exact k
    | ok dk r1 =>
      simp only [em] at k
      cases dk with
      | tup l =>
        intro vk G1 H1 s1 k1 p1
        simp only at k
        cases er1 : r1[i]? with
        | none => simp only [er1] at k
        | some q1 =>
          simp only [er1] at k
          cases q1 with
          | ownD t1 es1 =>
            cases t1 with
            | false => exact k.elim
            | true =>
              simp only at k
              refine ⟨r1, ad, G1, s1, ?_⟩
              unfold kE
              cases ed : md r1 with
              | bad => simp only [ed] at k
              | exc c fs => simp only [ed] at k; exact k
              | ok z r2 =>
                simp only [ed] at k
                intro vz G2 H2 s2 k2 p2
                cases er2 : r2[i]? with
                | none => simp only [er2] at k
                | some q2 =>
                  simp only [er2] at k
                  cases q2 with
                  | ownD t2 es =>
                    cases t2 with
                    | false => exact k.elim
                    | true =>
                      cases ek : ksD l with
                      | none => simp only [ek] at k
                      | some ks =>
                        simp only [ek] at k
                        obtain ⟨y1, y2, y3, y4⟩ := s2.ownD i true es er2
                        rcases y4 with ⟨zz, _⟩ | ⟨_, kvs, y4, y5⟩
                        · cases zz
                        · obtain ⟨o, g1, g2⟩ := dget_T s2.hst.sub (.inl y4) y5 ek (p1.up k2.g)
                          refine ⟨o, g1, ?_⟩
                          rcases g2 with ⟨g2, rfl⟩ | ⟨d, v, g2, rfl, g3⟩
                          · rw [g2] at k
                            exact k vz G2 H2 s2 (k1.trans k2) p2
                          · rw [g2] at k
                            exact k v G2 H2 s2 (k1.trans k2) g3
                  | _ => exact k.elim
          | _ => exact k.elim
      | _ => exact k.elim
  · exact k.elim
/-! ### an own dict lies still from now on -/
def sFrzD (i : Nat) (a : MS) : MS := fun r => match r[i]? with
  | some (.ownD _ es) => a (r.set i (.dat (.dct es)))
  | _ => .bad
theorem s_frzd {st : Stmt} {a : MS} (i : Nat) (h : PS X st (tS C E a)) : PS X st (tS C E (sFrzD i a)) := by
  refine ⟨fun pins s σ H Dn I hw => ?_⟩
  obtain ⟨r, ad, G, st, k⟩ := hw
  unfold sFrzD at k
  split at k
  · rename_i t es e
    obtain ⟨h1, h2, h3, h4⟩ := st.ownD i t es e
    have mk : ∃ u, H (ad i) = some u ∧ Mut (some u) ∧ (∀ ps, u ≠ .tbl ps) ∧ (∀ c q, u ≠ LamX.CodeO c q) ∧ ∀ od G', Same G G' → G' (ad i) = some (.frz od u) → Rp C.K G' (.ref (ad i)) (.dct es) := by
      rcases h4 with ⟨_, kvs, q, p⟩ | ⟨_, kvs, q, p⟩
      · exact ⟨_, q, trivial, (fun ps z => by cases z), (fun c q z => by cases z), fun od G' g e' => Rp.dK e' (RpK.mono g _ _ p)⟩
      · exact ⟨_, q, trivial, (fun ps z => by cases z), (fun c q z => by cases z), fun od G' g e' => Rp.dT e' (RpT.mono g _ _ p)⟩
    obtain ⟨u, hu, mu, nt, nc, hr⟩ := mk
    obtain ⟨od, I1⟩ := I.lock hu mu
    refine h.run pins s σ _ Dn I1 ?_
    have np : ∀ j, isOwn (r.set i .un) j → ad j ≠ ad i := fun j hj z => (own_set_un hj).1 (st.inj j i (own_set_un hj).2 (.inr ⟨t, es, e⟩) z)
    have q : σ.set i (some (V.ref (ad i))) = σ := by
      apply List.ext_getElem?
      intro j
      by_cases hj : j = i
      · rw [hj, set_at (lt_of_get h1), h1]
      · rw [set_no hj]
    have u0 : Stt C (r.set i .un) ad σ G H := by
      have z := st.setU (i := i) (v := some (V.ref (ad i)))
      rw [q] at z
      exact z
    -- the heap with the locked dict
    have hst1 : Hst C G (upd H (ad i) (.frz od u)) := u0.hst.put h3 (.inl h2) (ne_of_some hu) (fun ps z => by rw [hu] at z; exact nt ps (Option.some.inj z)) (fun c q z => by rw [hu] at z; exact nc c q (Option.some.inj z))
    have u1 : Stt C (r.set i .un) ad σ G (upd H (ad i) (.frz od u)) := by
      refine ⟨hst1, u0.len, u0.dat, fun j kk l e' => ?_, fun j t' l e' => ?_, u0.inj⟩
      · obtain ⟨a1, a2, a3, ys, a4, a5⟩ := u0.own j kk l e'
        exact ⟨a1, a2, a3, ys, by rw [upd_ne (np j (.inl ⟨kk, l, e'⟩))]; exact a4, a5⟩
      · obtain ⟨a1, a2, a3, a4⟩ := u0.ownD j t' l e'
        exact ⟨a1, a2, a3, a4.up (Same.refl _) (upd_ne (np j (.inr ⟨t', l, e'⟩)))⟩
    have u2 := u1.still h3 h2 upd_same (fun _ z => nomatch z) np
    have u3 := u2.setD (i := i) (v := .ref (ad i)) (d := .dct es) (hr od _ (same_upd h3) upd_same)
    rw [q, List.set_set] at u3
    exact ⟨_, ad, _, u3, kS_up k (same_upd h3)⟩
  · exact k.elim
/-! ### d[k] of a still dict -/
def gDIx (x y : D) : Option D := match x, y with
  | .dct es, .tup l => (ksD l).bind fun ks => dLook (isTK ks) es
  | _, _ => none
theorem e_dix {o ei : Expr} {mo mi : ME} (hu : X.A.units + 1 < cLine) (ho : PE X o (tE C E mo)) (hi : PE X ei (tE C E mi)) (hs : NoSl ei := by exact fun _ _ => rfl) : PE X (.Subscript o ei pos) (tE C E (mOp gDIx mo mi)) := by
  refine PE.imp (pe_dget hu ho hi hs) fun σ H Q ⟨r, ad, G, s, k⟩ => ⟨r, ad, G, s, ?_⟩
  unfold mOp at k
  unfold kE at k ⊢
  cases ea : mo r with
  | bad => simp only [ea, bindE] at k
  | exc c fs => simp only [ea, bindE] at k; exact k
  | ok x r1 =>
    simp only [ea, bindE] at k
    intro v G1 H1 s1 k1 p1
    refine ⟨r1, ad, G1, s1, ?_⟩
    unfold kE
    cases eb : mi r1 with
    | bad => simp only [eb] at k
    | exc c fs => simp only [eb] at k; exact k
    | ok y r2 =>
      simp only [eb] at k
      intro u G2 H2 s2 k2 p2
      cases eg : gDIx x y with
      | none => rw [eg] at k; exact k.elim
      | some d =>
        rw [eg] at k
        cases x <;> first | (cases eg; done) | skip
        cases y <;> first | (cases eg; done) | skip
        rename_i es l
        unfold gDIx at eg
        simp only at eg
        cases ek : ksD l with
        | none => rw [ek] at eg; cases eg
        | some ks =>
          rw [ek] at eg
          simp only [Option.bind_some] at eg
          have px := p1.up k2.g
          cases px with
          | dT h1 h2 =>
            obtain ⟨ov, g1, g2⟩ := dget_T s2.hst.sub (.inr ⟨_, s2.hst.sub _ _ h1⟩) h2 ek p2
            rcases g2 with ⟨g2, _⟩ | ⟨d', w, g2, rfl, g3⟩
            · rw [g2] at eg; cases eg
            · rw [g2] at eg
              cases eg
              exact ⟨_, w, rfl, g1, k w G2 H2 s2 (k1.trans k2) g3⟩
          | dK h1 h2 =>
            -- a dict of single keys holds no tuple
            exfalso
            have : ∀ {kvs : List (Key × V)} {es : List (D × D)}, RpK C.K G2 kvs es → dLook (isTK ks) es = none := by
              intro kvs es hh
              induction es generalizing kvs with
              | nil => rfl
              | cons e es ih =>
                cases hh with
                | cons a b =>
                  unfold dLook
                  rw [List.find?_cons]
                  have z : ∀ kk : Key, isTK ks (keyD kk) = false := fun kk => by cases kk <;> exact decide_eq_false (fun q => nomatch q)
                  simp only [z]
                  exact ih b
            rw [this h2] at eg
            cases eg
/-! ### for k in d -/
def mKeys (m : ME) : MA := fun r => match m r with
  | .ok (.dct es) r1 => .ok (es.map (·.1)) r1
  | .exc c fs => .exc c fs
  | _ => .bad
theorem RpT.get {K : PySem.W.Frag} {G : Hp} : ∀ {es : List (D × D)} {kvs : List (List Key × V)} {i : Nat} {ks : List Key} {v : V}, RpT K G kvs es → kvs[i]? = some (ks, v) → ∃ d, es[i]? = some (.tup (ks.map keyD), d)
  | _, _, _, _, _, .nil, h => by simp at h
  | _, _, 0, ks, v, .cons h1 h2, h => by simp at h; obtain ⟨rfl, rfl⟩ := h; exact ⟨_, rfl⟩
  | _, _, i + 1, ks, v, .cons h1 h2, h => by
    obtain ⟨d, e⟩ := h2.get (i := i) (by simpa using h)
    exact ⟨d, by simpa using e⟩
theorem RpK.get {K : PySem.W.Frag} {G : Hp} : ∀ {es : List (D × D)} {kvs : List (Key × V)} {i : Nat} {ks : Key} {v : V}, RpK K G kvs es → kvs[i]? = some (ks, v) → ∃ d, es[i]? = some (keyD ks, d)
  | _, _, _, _, _, .nil, h => by simp at h
  | _, _, 0, ks, v, .cons h1 h2, h => by simp at h; obtain ⟨rfl, rfl⟩ := h; exact ⟨_, rfl⟩
  | _, _, i + 1, ks, v, .cons h1 h2, h => by
    obtain ⟨d, e⟩ := h2.get (i := i) (by simpa using h)
    exact ⟨d, by simpa using e⟩
theorem RpK.length {K : PySem.W.Frag} {G : Hp} : ∀ {es : List (D × D)} {kvs : List (Key × V)}, RpK K G kvs es → kvs.length = es.length
  | _, _, .nil => rfl
  | _, _, .cons _ h => congrArg (· + 1) h.length
theorem rpL_keys {K : PySem.W.Frag} {G : Hp} : ∀ ks : List Key, RpL K G (ks.map kV) (ks.map keyD)
  | [] => .nil
  | k :: ks => .cons (by cases k with
    | inl i => exact .int i
    | inr s => exact .str s) (rpL_keys ks)
/-- any tuple may be taken as still -/
theorem Grow.tup {G H : Hp} {q : Addr} {xs : List V} (sub : Same G H) (gnt : ∀ b ps, G b ≠ some (.tbl ps)) (h : H q = some (.tup xs)) : ∃ G2, Grow G H G2 H ∧ G2 q = some (.tup xs) := by
  cases e : G q with
  | some o =>
    have := sub q o e
    rw [h] at this
    cases this
    exact ⟨G, Grow.refl2 sub gnt, e⟩
  | none =>
    refine ⟨upd G q (.tup xs), ⟨same_upd e, Same.refl _, fun b u z => ?_, fun b ps z => ?_, fun b n z => ?_⟩, upd_same⟩
    · by_cases hb : b = q
      · rw [hb, upd_same] at z; cases z; rw [hb]; exact h
      · rw [upd_ne hb] at z; exact sub b u z
    · by_cases hb : b = q
      · rw [hb, upd_same] at z; cases z
      · rw [upd_ne hb] at z; exact gnt b ps z
    · have hb : b ≠ q := fun hb => by rw [hb, h] at n; exact n
      rw [upd_ne hb]; exact z
theorem wk_keysT {G : Hp} {a : Addr} {o : Obj} {kvs : List (List Key × V)} {es : List (D × D)} (h : G a = some (.frz o (.dT kvs))) (p : RpT C.K G kvs es) : WkD C G (Itkt a o kvs) (es.map (·.1)) := by
  refine ⟨?_⟩
  rw [List.length_map, ← p.length]
  refine Walk.mono walk_keysT (fun H q => q _ _ h) fun i H x H' hi q y => ?_
  obtain ⟨rfl, ks, v, b, e1, rfl, e2⟩ := y
  intro G1 g1 s1 n1
  obtain ⟨G2, gr, e3⟩ := Grow.tup s1 n1 e2
  obtain ⟨d, e4⟩ := p.get e1
  refine ⟨G2, gr, .tup (ks.map keyD), ?_, .tup e3 (rpL_keys ks)⟩
  rw [List.getElem?_map, e4]
  rfl
theorem wk_keysK {G : Hp} {a : Addr} {o : Obj} {kvs : List (Key × V)} {es : List (D × D)} (h : G a = some (.frz o (.dK kvs))) (p : RpK C.K G kvs es) : WkD C G (Itk a o kvs) (es.map (·.1)) := by
  refine ⟨?_⟩
  rw [List.length_map, ← p.length]
  refine Walk.mono walk_keys (fun H q => q _ _ h) fun i H x H' hi q y => ?_
  obtain ⟨rfl, k, v, e1, rfl⟩ := y
  intro G1 g1 s1 n1
  obtain ⟨d, e4⟩ := p.get e1
  refine ⟨G1, Grow.refl2 s1 n1, keyD k, ?_, ?_⟩
  · rw [List.getElem?_map, e4]
    rfl
  · cases k with
    | inl i => exact .int i
    | inr s => exact .str s
theorem i_keys {tg e : Expr} {m : ME} (h : PE X e (tE C E m)) : PI X tg e (tI C E (mKeys m)) := by
  refine PI.imp (pi_keys h) fun σ H R ⟨r, ad, G, s, k⟩ => ⟨r, ad, G, s, ?_⟩
  unfold mKeys at k
  unfold kI at k
  unfold kE
  cases e : m r with
  | bad => simp only [e] at k
  | exc c fs => simp only [e] at k; exact k
  | ok d r1 =>
    simp only [e] at k
    cases d with
    | dct es =>
      intro v G1 H1 s1 k1 p1
      cases p1 with
      | dK h1 h2 => exact ⟨_, _, rfl, .inl ⟨_, s1.hst.sub _ _ h1, k _ G1 H1 s1 k1 (wk_keysK h1 h2)⟩⟩
      | dT h1 h2 => exact ⟨_, _, rfl, .inr ⟨_, s1.hst.sub _ _ h1, k _ G1 H1 s1 k1 (wk_keysT h1 h2)⟩⟩
    | _ => exact k.elim
end
end DL

/-! Own exceptions: made and raised. -/
namespace DL
open PySem PySem.Spec PyProof.Rows L2

theorem u1 {k : Nat} {A : Around} (r : Room k A) : A.units + 1 < cLine := by have := r.un; omega

/-- what a class's __init__ does: each parameter is kept under its name -/
def spI (C : Addr) (fs : List Str) : Sp := fun vs H Q _ => ∃ a us, vs = .ref a :: us ∧ us.length = fs.length ∧ H a = some (exo a C none) ∧
  ∀ d, H d = none → d ≠ a → Q .non (upd (upd H d (exd d (fs.zip us).reverse)) a (exo a C (some d)))
theorem upd_twice {H : Hp} {a : Addr} {o u : HO} : upd (upd H a o) a u = upd H a u := by
  funext b
  by_cases h : b = a
  · subst h; rw [upd_same, upd_same]
  · rw [upd_ne h, upd_ne h, upd_ne h]
theorem upd_swap {H : Hp} {a d : Addr} {o u : HO} (h : a ≠ d) : upd (upd H a o) d u = upd (upd H d u) a o := by
  funext b
  by_cases h1 : b = a
  · subst h1; rw [upd_ne h, upd_same, upd_same]
  · by_cases h2 : b = d
    · subst h2; rw [upd_same, upd_ne h1, upd_same]
    · rw [upd_ne h2, upd_ne h1, upd_ne h1, upd_ne h2]

section
variable {P : Program} {w : World} {K : PySem.W.Frag} {mg : Str → Option Value} {base : Heap}
/-- a class's __init__ as the top has left it -/
structure IniD (K : PySem.W.Frag) (C : Addr) (qual : Str) (st : Stmt) (ps : List Str) (fs : List Str) : Prop where
  ex : ∃ f fd, Fun K "__init__" qual st f fd ∧ PySem.W.findIn K (.ref C) "__init__" = some (some (.ref f)) ∧ PySem.W.typeIn K (.ref f) = some (.type "function") ∧ Binds K fd ps []
  oex : OexC K C
  no : ∀ f ∈ fs, PySem.W.findIn K (.ref C) f = some none
  xf : XfC K C
/-- a class that can be raised -/
structure ExcD (P : Program) (w : World) (K : PySem.W.Frag) (mg : Str → Option Value) (base : Heap) (C : Addr) (k : Nat) (c : Str) (fs : List Str) : Prop where
  nm : mg c = some (.ref C)
  oex : OexC K C
  ini : ∃ fI fd ps, PySem.W.findIn K (.ref C) "__init__" = some (some (.ref fI)) ∧ PySem.W.typeIn K (.ref fI) = some (.type "function") ∧ FnOk P w K mg base (L2.CX P w) k fI fd ps (spI C fs) ∧ Binds K fd ps []

theorem spI_len {C : Addr} {fs : List Str} {vs : List V} {H : Hp} {Q : VK} {E : XK} (h : spI C fs vs H Q E) : vs.length = fs.length + 1 := by
  obtain ⟨a, us, rfl, e, _⟩ := h
  simp [e]
theorem exc1 {C : Addr} {c qual p1 f1 : Str} {st : Stmt} {pa pb pc pd : Pos} (nm : mg c = some (.ref C)) (d : IniD K C qual st ["self", p1] [f1]) (S : FnScope ["self", p1] ["self", p1] (defScope st))
    (hb : defBody st = [.Assign [.Attribute (.Name "self" pa) f1 pb] (.Name p1 pc) pd] := by rfl)
    (v1 : Vis (defScope st) "self" := by first | exact Or.inl rfl | exact Or.inr (Or.inl rfl)) (v2 : Vis (defScope st) p1 := by first | exact Or.inl rfl | exact Or.inr (Or.inl rfl))
    (hd1 : (p1 == ("__debug__" : Str)) = false := by decide) (hc1 : (p1 == ("__classdict__" : Str)) = false := by decide) :
    ExcD P w K mg base C 1 c [f1] := by
  obtain ⟨f, fd, F, iC, tI, b⟩ := d.ex
  refine ⟨nm, d.oex, f, fd, _, iC, tI, F.okX S (fun vs H Q E h => by have := spI_len h; simpa using this) (fun cdv A outer s H vs Q E hr h => ?_), b⟩
  rw [hb]
  refine ⟨_, pss_one (ps_ost (pe_var (i := 0) rfl v1) (pe_var (i := 1) rfl v2 hd1 hc1)), ?_⟩
  obtain ⟨a, us, rfl, el, ha, k⟩ := h
  match us, el with
  | [y], _ =>
    exact ⟨y, rfl, .ref a, rfl, a, C, rfl, d.oex, d.no f1 (by simp), .inl ⟨ha, fun dx n ne => k dx n ne⟩⟩
end
def sRaise (x : Str) (fs : List Str) (m : MA) : MS := fun r => match m r with
  | .ok ds _ => if ds.length = fs.length then .exc x (fs.zip ds).reverse else .bad
  | .exc c fs => .exc c fs
  | .bad => .bad
theorem RpF.append {K : PySem.W.Frag} {G : Hp} : ∀ {a : List (Str × V)} {b : List (Str × D)} {a' : List (Str × V)} {b' : List (Str × D)}, RpF K G a b → RpF K G a' b' → RpF K G (a ++ a') (b ++ b')
  | _, _, _, _, .nil, h => h
  | _, _, _, _, .cons p q, h => .cons p (q.append h)
theorem RpF.rev {K : PySem.W.Frag} {G : Hp} : ∀ {a : List (Str × V)} {b : List (Str × D)}, RpF K G a b → RpF K G a.reverse b.reverse
  | _, _, .nil => .nil
  | _, _, .cons p q => by
    rw [List.reverse_cons, List.reverse_cons]
    exact q.rev.append (.cons p .nil)
theorem rpF_zip {K : PySem.W.Frag} {G : Hp} : ∀ {fs : List Str} {vs : List V} {ds : List D}, RpL K G vs ds → RpF K G (fs.zip vs) (fs.zip ds)
  | [], _, _, _ => .nil
  | _ :: _, _, _, .nil => .nil
  | _ :: _, _, _, .cons p q => .cons p (rpF_zip q)
section
variable {X : Cx} {C : Fc} {E : XK} {pos : Pos} {x : Str} {p p2 : Pos} {e : Expr} {es : List Expr} {k j : Nat} {m : MA} {fs : List Str}
theorem s_raise (tk : Takes X (fun cls d _ H => E cls d H)) (d : ExcD X.prog X.w X.K X.mg X.base (C.cls x) k x fs) (hr : Room j X.A) (ha : PA X (e :: es) (tA C E m)) (hk : k + 1 ≤ j := by decide) (hl : fs.length ≤ 1000 := by decide) (hc : X.calm = true := by rfl) (hg : Gl X x := by rfl)
    (hdb : (x == ("__debug__" : Str)) = false := by decide) (he : starEach (e :: es) X.env = (false, eval e X.env) :: starEach es X.env := by rfl) (hpl : (backTo p2 (starEach es X.env)).any (·.1) = false := by rfl) :
    PS X (.Raise (some (.Call (.Name x p) (e :: es) [] p2)) none pos) (tS C E (sRaise x fs m)) := by
  obtain ⟨fI, fd, ps, iC, tI, F1, b⟩ := d.ini
  refine PS.imp (ps_raise hc tk (pmk_oex d.oex iC tI F1 (hr.mono hk) b .nil (passes_call tk (fun _ _ _ _ h => False.elim h)) hg d.nm ha hdb he hpl)) fun Dn σ H h => ?_
  obtain ⟨r, ad, G, s, k⟩ := h
  refine ⟨r, ad, G, s, ?_⟩
  unfold sRaise at k
  cases q : m r with
  | bad => rw [q] at k; exact k.elim
  | exc c f => rw [q] at k; exact k
  | ok ds r' =>
    rw [q] at k
    simp only at k
    intro vs G' H' s' kp pv
    by_cases el : ds.length = fs.length
    · rw [if_pos el] at k
      refine ⟨by rw [pv.length, el]; exact hl, fun a ha => ⟨a, vs, by rw [List.append_nil], by rw [pv.length, el], upd_same, fun dd hd ne => ?_⟩⟩
      rw [upd_ne ne] at hd
      have hs := s'.hst
      have fin : upd (del (upd (upd (upd H' a (exo a (C.cls x) none)) dd (exd dd (fs.zip vs).reverse)) a (exo a (C.cls x) (some dd))) a) dd (.xd (fs.zip vs).reverse) = upd H' dd (.xd (fs.zip vs).reverse) := by
        funext b
        by_cases h1 : b = dd
        · subst h1; rw [upd_same, upd_same]
        · rw [upd_ne h1, upd_ne h1]
          by_cases h2 : b = a
          · subst h2; rw [del_same, ha]
          · rw [del_ne h2, upd_ne h2, upd_ne h1, upd_ne h2]
      refine ⟨rfl, dd, _, upd_same, by rw [upd_ne ne, upd_same], hd, ?_⟩
      rw [fin]
      exact k dd _ G' _ (hs.grow (Grow.layH hs.sub hs.gnt hd)) upd_same (rpF_zip pv).rev
    · rw [if_neg el] at k; exact k.elim
end
end DL

/-! A lambda made and handed on: what stood stays, but for the tables told of. -/
namespace DL
open PySem PySem.Spec PyProof.Rows L2 LamX

structure ExtT (T : List (Addr × Str)) (H H1 : Hp) : Prop where
  dom : ∀ b, H b ≠ none → H1 b ≠ none
  keep : ∀ b o, H b = some o → (∀ p ∈ T, b ≠ p.1) → H1 b = some o
  non : ∀ b o, H b = some o → (∀ ps, o ≠ .tbl ps) → H1 b = some o
theorem ExtT.refl (T : List (Addr × Str)) (H : Hp) : ExtT T H H := ⟨fun _ h => h, fun _ _ h _ => h, fun _ _ h _ => h⟩
/-- one table of T has grown, a code object is new -/
theorem ExtT.one {T : List (Addr × Str)} {H : Hp} {P c : Addr} {q : Str} {ps qs : Array Value} (hP : H P = some (.tbl ps)) (hc : H c = none) (hm : (P, q) ∈ T) : ExtT T H (upd (upd H P (.tbl qs)) c (CodeO c q)) := by
  have two : ∀ b o, H b = some o → b ≠ P → upd (upd H P (.tbl qs)) c (CodeO c q) b = some o := fun b o e n => by
    rw [upd_ne (ne_of_none e hc), upd_ne n, e]
  refine ⟨fun b n => ?_, fun b o e n => two b o e (n _ hm), fun b o e n => two b o e fun z => ?_⟩
  · obtain ⟨o, e⟩ := some_of_ne n
    by_cases z : b = P
    · rw [upd_ne (ne_of_none e hc), z, upd_same]; simp
    · rw [two b o e z]; simp
  · rw [z, hP] at e
    exact n ps (Option.some.inj e).symm
theorem Tabs.one {T : List (Addr × Str)} {H : Hp} {P c : Addr} {q : Str} {pos : Pos} {ps : Array Value} (hT : Tabs T H) (hP : H P = some (.tbl ps)) (ht : TriplesOk ps.toList) (hc : H c = none) (hm : (P, q) ∈ T) (hu : ∀ p ∈ T, p.1 = P → p.2 = q) :
    Tabs T (upd (upd H P (.tbl (ps ++ #[rawInt pos.line, rawInt pos.col, .ref c]))) c (CodeO c q)) := by
  have E := ExtT.one (qs := ps ++ #[rawInt pos.line, rawInt pos.col, .ref c]) hP hc hm
  have app : (ps ++ #[rawInt pos.line, rawInt pos.col, .ref c]).toList = ps.toList ++ [rawInt pos.line, rawInt pos.col, .ref c] := by simp
  intro p hp
  obtain ⟨qs, g1, g2, g3⟩ := hT p hp
  by_cases z : p.1 = P
  · have eq : qs = ps := by
      rw [z, hP] at g1
      exact (HO.tbl.inj (Option.some.inj g1)).symm
    subst eq
    refine ⟨_, by rw [z, upd_ne (ne_of_none hP hc), upd_same], by rw [app]; exact TriplesOk_snoc _ _ _ _ ht, fun at_ cv hcv => ?_⟩
    rw [app] at hcv
    rcases among_app _ ht hcv with y | y
    · obtain ⟨c0, e1, e2⟩ := g3 at_ cv y
      exact ⟨c0, e1, E.non _ _ e2 codeO_ne⟩
    · refine ⟨c, y, ?_⟩
      rw [hu p hp z]
      exact upd_same
  · refine ⟨qs, ?_, g2, fun at_ cv hcv => ?_⟩
    · rw [upd_ne (ne_of_none g1 hc), upd_ne z]; exact g1
    · obtain ⟨c0, e1, e2⟩ := g3 at_ cv hcv
      exact ⟨c0, e1, E.non _ _ e2 codeO_ne⟩
section
variable {X : Cx} {pins : List (Addr × Obj)} {σ : L2.St} {H : Hp} {s : Shared}
theorem lam_made {T : List (Addr × Str)} {c P : Addr} {params : Arguments} {body : Expr} {scope : Scope} {pos : Pos} {E : Value → Shared → Prop} {Q : Value → Shared → Prop} (I : Inv X pins σ H s) (TB : TabB X.base X.mg c P) (hcode : X.env.code = .ref c)
    (hm : (P, X.env.qual ++ "<lambda>") ∈ T) (hu : ∀ p ∈ T, p.1 = P → p.2 = X.env.qual ++ "<lambda>") (hT : Tabs T H) (hdef : defaultsOf params X.env = ([], [])) (hfree : ∀ y ∈ scope.names, y.2 = .free → ∃ c, X.env.cells.lookup y.1 = some c)
    (k : ∀ (f c' : Addr) (pm ctv : Value) (H1 : Hp) (s' : Shared), Inv X pins σ H1 s' → ExtT T H H1 → Tabs T H1 → s'.heap.get? f = some (PySem.W.kla_obj "<lambda>" (X.env.qual ++ "<lambda>") params body scope (cloFrom X.env.cells scope.names []) pm c' ctv) →
      H1 f = none → f ∉ frs X.stack → H1 c' = some (CodeO c' (X.env.qual ++ "<lambda>")) → Q (.ref f) s') : wpAny (model X.prog X.w) X.A (eval (.Lambda params body scope pos) X.env) Q E s := by
  obtain ⟨ps, hP, ht, ha⟩ := hT _ hm
  have tabAt : s.heap.get? P = some { cls := .none, data := .fields ps } := I.hok P _ hP
  have bAt : s.heap.BuiltinsAt X.mg P := TB.bm.keeps I.bk
  have far : ∀ f, s.heap.objs.size ≤ f → f ∉ frs X.stack := fun f hf z => by
    rcases List.mem_cons.mp (I.stkSub _ z) with e | e
    · have lt := I.lt
      rw [← e] at lt
      exact absurd (Nat.lt_of_lt_of_le lt hf) (Nat.lt_irrefl _)
    · exact I.nofs hf e
  refine PySem.W.kla_eval hdef ?_
  cases hc : codeAmong pos ps.toList with
  | some cv =>
    obtain ⟨c', rfl, hco⟩ := ha pos cv hc
    refine PySem.W.kla_makeFunctionHit (mg := X.mg) (c := c) (P := P) (ps := ps) (closure_ok hfree) I.ok.glob (I.mod.glob.keeps I.bk) hcode (TB.code.keeps I.bk) tabAt ht hc bAt fun ctv h' tk up big => ?_
    exact k _ c' _ ctv H _ (I.kept fun b o e => Heap.get?_push_of_some _ (up b o e)) (ExtT.refl T H) hT (Heap.get?_push_size _ rfl) (I.hok.fresh big) (far _ big) hco
  | none =>
    refine PySem.W.kla_makeFunction (mg := X.mg) (c := c) (P := P) (ps := ps) (closure_ok hfree) I.ok.glob (I.mod.glob.keeps I.bk) hcode (TB.code.keeps I.bk) tabAt ht hc TB.gP bAt fun c' ctv h' tk up lo hi rec tab => ?_
    obtain ⟨_, oc, vs, t, e, hoc, hd, hv⟩ := rec
    cases e
    have big : s.heap.objs.size ≤ h'.objs.size := Nat.le_trans lo (Nat.le_of_lt hi)
    have nC : H c' = none := I.hok.fresh lo
    refine k h'.objs.size c' _ ctv _ _ (inv_table (t' := tk) (more := #[rawInt pos.line, rawInt pos.col, .ref c']) (h' := h'.push _) I hP (fun b o ne e => Heap.get?_push_of_some _ (up b o ne e)) (Heap.get?_push_of_some _ tab) lo ⟨oc, vs, t, Heap.get?_push_of_some _ hoc, hd, hv⟩)
      (ExtT.one hP nC hm) (Tabs.one hT hP ht nC hm hu) (Heap.get?_push_size _ rfl) ?_ (far _ big) upd_same
    have n1 : h'.objs.size ≠ c' := Nat.ne_of_gt hi
    have n2 : h'.objs.size ≠ P := Nat.ne_of_gt (Nat.lt_of_lt_of_le (Heap.lt_size tabAt) big)
    rw [upd_ne n1, upd_ne n2]
    exact I.hok.fresh big
end
def tLamT (T : List (Addr × Str)) (TT : (XK → Hp → VK → Prop) → Hp → VK → Prop) (t : XK → TE) : TE := fun σ H Q => Tabs T H ∧ ∀ H1, ExtT T H H1 → Tabs T H1 → TT (fun E H' Q' => t E σ H' Q') H1 Q
section
variable {X : Cx}
/-- x(lambda: body), x a def that lets nothing out -/
theorem e_lam {T : List (Addr × Str)} {TT : (XK → Hp → VK → Prop) → Hp → VK → Prop} {x a : Str} {g c P : Addr} {k : Nat} {st : Stmt} {fd : FuncData} {Ng : List Str}
    {params : Arguments} {body : Expr} {scope : Scope} {t : XK → TE} {p lpos pos : Pos} (F : Fun X.K x x st g fd) (hm : X.mg x = some (.ref g)) (hb : L2.Binds X.K fd [a] []) (Sg : FnScope Ng [a] (defScope st)) (hNg : Ng[0]? = some a) (hva : Vis (defScope st) a)
    (hG : ∀ cdv, GivesTo X Ng x (defScope st) g cdv (defBody st) a (X.env.qual ++ "<lambda>") TT)
    (TB : TabB X.base X.mg c P) (hcode : X.env.code = .ref c) (hmT : (P, X.env.qual ++ "<lambda>") ∈ T) (hu : ∀ p ∈ T, p.1 = P → p.2 = X.env.qual ++ "<lambda>") (hr : Room (k + 2) X.A) (L : LamS X.env.scope scope)
    (hbody : ∀ (A : Around) (outer : List Env) (s : Shared) (H : Hp) (E : XK) (f c' : Addr), Room k (A.deeper (lamEnv X scope s.heap.objs.size f c')) → PE (lamCx X A outer s H E scope f c') body (t E))
    (hdef : defaultsOf params X.env = ([], []) := by rfl)
    (hbind : ∀ (q : Str) (cl : List (Str × Addr)) (pm cv ctv : Value), bindArgs (PySem.W.kla_fn "<lambda>" q params body scope cl pm cv ctv) ⟨[], []⟩ = pure [] := by intros; rfl)
    (hg : Gl X x := by rfl) (hdb : (x == ("__debug__" : Str)) = false := by decide) (hd : (a == ("__debug__" : Str)) = false := by decide) (hcd : (a == ("__classdict__" : Str)) = false := by decide) :
    PE X (.Call (.Name x p) [.Lambda params body scope lpos] [] pos) (tLamT T TT t) := by
  refine ⟨fun pins s σ H Q I h => ?_⟩
  obtain ⟨hT, h⟩ := h
  obtain ⟨oc, od, kV, doc, pm, an, cdv, ct, osl, rfl, lk, hcg⟩ := F.ex
  refine wpAny_Call_Name_kw (ld_glob I hg hm (PySem.W.callWith_K (h₀ := X.base) I.ok.mod.kin F.kp ?_ (by rfl) (by rfl)) hdb)
  show wpAny _ _ (spliced ((false, eval (.Lambda params body scope lpos) X.env) :: backTo pos (starEach [] X.env))) _ _ s
  refine Calls.spliced_cons (lam_made I TB hcode hmT hu hT hdef (L.has I.ok) fun f c' pm' ctv H1 s' I1 eN T1 hf hfn hfr hco => Calls.spliced_nil ⟨I1.kIn, ?_⟩)
  have go : codeAny (model X.prog X.w) X.A (.call (.ref g) ⟨[.ref f], []⟩) (CR C8.CX0 X.stack X.prog X.w H1 s' Q C8.E0) s' := by
    refine run_ofS (k := k + 1) (N := Ng) (ps := [a]) (us := [.ref f]) (vs := [.ref f]) lk hcg Sg hr I1.env0 (hb s' [.ref f] I1.kIn rfl) (.cons rfl .nil) rfl fun deep => ?_
    obtain ⟨t', w1, w2⟩ := hG cdv f c' s' H1 Q (fun E H' Q' => t E σ H' Q') (fun W pn xe E p1 p2 tk hW => pe_act (i := 0) I1 L hf hfn hfr (hbind _ _ _ _ _) tk hW deep (fun A outer s H hr2 => hbody A outer s H E f c' hr2) hNg hva hd hcd) hco (h H1 eN T1)
    exact ⟨t', w1.nox, w2⟩
  refine wpAny_call (codeAny_mono go fun r s2 hq => ?_)
  cases r with
  | error e => exact (show False from hq).elim
  | ok fl =>
    cases fl with
    | ret u => exact I1.after hq
    | next => exact False.elim hq
    | brk => exact False.elim hq
    | cont => exact False.elim hq
end
end DL

/-! try with several clauses, each with or without a name. -/
namespace DL
open PySem PySem.Spec PyProof.Rows L2 LamX

def wNo (K : PySem.W.Frag) (c : Value) (ts : Addr → Value → Option Addr → TS) (W : WX) (D : Ends) : WX := fun cls d σ H =>
  ∃ b, PySem.W.exmOne K cls c = some b ∧ (b = true → ∀ a, H a = none → ts a cls d D σ H) ∧ (b = false → W cls d σ H)
/-- the clauses, and what they wish -/
inductive HdN (X : Cx) : List ExceptHandler → (WX → Ends → WX) → Prop
  | nil : HdN X [] (fun W _ => W)
  | as {x n : Str} {c : Value} {i : Nat} {ts : Addr → Value → Option Addr → TS} {b₀ : Stmt} {suite : List Stmt} {np p : Pos} {hds : List ExceptHandler} {w : WX → Ends → WX} (hi : X.N[i]? = some n) (hl : X.env.kindOf n = some .local) (hc : Names X x c)
      (hsu : ∀ (a : Addr) (oe : Obj) (cls : Value) (d : Option Addr) (pn : List (Addr × Obj)), Zc cls d oe → (∃ vs, oe.data = .fields vs) → PSs (X.suite a ((a, oe) :: pn)) (b₀ :: suite) (ts a cls d)) (r : HdN X hds w) :
      HdN X (.ExceptHandler (some (.Name x np)) (some n) (b₀ :: suite) p :: hds) (fun W D => wAs X.K c i ts (w W D) D)
  | no {x : Str} {c : Value} {ts : Addr → Value → Option Addr → TS} {b₀ : Stmt} {suite : List Stmt} {np p : Pos} {hds : List ExceptHandler} {w : WX → Ends → WX} (hc : Names X x c)
      (hsu : ∀ (a : Addr) (oe : Obj) (cls : Value) (d : Option Addr) (pn : List (Addr × Obj)), Zc cls d oe → (∃ vs, oe.data = .fields vs) → PSs (X.suite a ((a, oe) :: pn)) (b₀ :: suite) (ts a cls d)) (r : HdN X hds w) :
      HdN X (.ExceptHandler (some (.Name x np)) none (b₀ :: suite) p :: hds) (fun W D => wNo X.K c ts (w W D) D)
section
variable {X : Cx} {pins : List (Addr × Obj)} {Dn : Ends}
/-- an end of the body is an end of the whole -/
theorem sp_back (ok : X.Ok) {pn : List (Addr × Obj)} {xe : Value → Shared → Prop} {f : Flow} {s : Shared} (h : SP (X.tr (X.pn ++ pins) xe) pn Dn f s) : SP X pins Dn f s := by
  cases f with
  | ret u =>
    obtain ⟨v, σ, H, J, r, q⟩ := h
    exact ⟨v, σ, H, J.ofTry ok, r, q⟩
  | next => exact h.imp fun σ h => h.imp fun H h => ⟨h.1.ofTry ok, h.2⟩
  | brk => exact h.imp fun σ h => h.imp fun H h => ⟨h.1.ofTry ok, h.2⟩
  | cont => exact h.imp fun σ h => h.imp fun H h => ⟨h.1.ofTry ok, h.2⟩
theorem sp_suite (ok : X.Ok) {a : Addr} {q : Addr × Obj} {pn : List (Addr × Obj)} {f : Flow} {s : Shared} (h : SP (X.suite a (q :: (X.pn ++ pins))) pn Dn f s) : SP X pins Dn f s := by
  cases f with
  | ret u =>
    obtain ⟨v, σ, H, J, r, q⟩ := h
    exact ⟨v, σ, H, J.unsuite ok, r, q⟩
  | next => exact h.imp fun σ h => h.imp fun H h => ⟨h.1.unsuite ok, h.2⟩
  | brk => exact h.imp fun σ h => h.imp fun H h => ⟨h.1.unsuite ok, h.2⟩
  | cont => exact h.imp fun σ h => h.imp fun H h => ⟨h.1.unsuite ok, h.2⟩
end
section
variable {X : Cx} {body : List Stmt} {h₀ : ExceptHandler} {hds : List ExceptHandler} {wsh : WX → Ends → WX} {pos : Pos} {tb : WX → TS} {Wout : WX}
theorem s_tryN (hs : X.stack = X.env :: X.outer) (hf : X.env.frame = some X.env.locals) (hN : X.N.Nodup) (tk : Takes X Wout)
    (hb : ∀ (W : WX) (pn : List (Addr × Obj)) (xe : Value → Shared → Prop), Takes (X.tr pn xe) W → PassesOwn (model X.prog X.w) X.A X.env xe → PSs (X.tr pn xe) body (tb W))
    (hh : HdN X (h₀ :: hds) wsh) : PS X (.Try body (h₀ :: hds) [] [] pos) (fun D σ H => tb (wsh Wout D) D σ H) := by
  refine ⟨fun pins s σ H D I h => ?_⟩
  have ok := I.ok
  have frm : X.A.frames = some (X.env :: X.outer) := by rw [ok.frames, hs]
  refine wpAny_Try_except ?_
  have run := (hb (wsh Wout D) (X.pn ++ pins) (fun e s₁ => wpAny (model X.prog X.w) X.A (noteFrame e X.env) (fun _ s₂ => wpAny (model X.prog X.w) X.A (setFlight e none)
    (fun _ s₃ => wpAny (model X.prog X.w) X.A (handleBy e X.env (h₀ :: hds)) (SP X pins D) X.xe s₃) X.xe s₂) X.xe s₁) (fun u s' xx => ?_) PassesOwn.looking).run [] s σ H D (I.toTry _) h
  · refine wpAny_mono run (fun f s1 hsp => ?_) (fun e s1 he => he)
    have back := sp_back (pins := pins) ok hsp
    cases f with
    | next => exact wpAny_execs_nil back
    | brk => exact back
    | cont => exact back
    | ret u => exact back
  · obtain ⟨a, B, sI, pins', σ', H', cls, d, rfl, J', nb, up, sky, na, os, ag, w⟩ := xx
    have J : Inv X pins σ' H' sI := J'.ofTry ok
    refine Sky.land Zc.steady frm hf (show Sky B (X.env :: X.outer) a (Zc cls d) X.env.locals s'.heap by rw [← hs]; exact sky) fun h3 fl3 up3 => ?_
    have J3 : Inv X pins σ' H' { s' with heap := h3 } := J.landed nb fl3.1 (up.trans up3) os ag
    obtain ⟨oe3, vs3, he3, hz3, hd3⟩ := fl3.there
    have nfr : a ∉ frs (X.env :: X.outer) := fun hm => by
      obtain ⟨_, o', e', hnf⟩ := fl3.2.2.1.mem hm
      rw [he3] at e'; cases e'
      exact hnf _ hd3
    have nL : a ≠ X.env.locals := fun z => nfr (List.mem_filterMap.mpr ⟨X.env, List.mem_cons_self, by rw [hf, z]⟩)
    have nF : a ∉ X.fs := fun hm => by
      obtain ⟨e, he, q⟩ := List.mem_filterMap.mp hm
      exact nfr (List.mem_filterMap.mpr ⟨e, List.mem_cons_of_mem _ he, q⟩)
    have S3 := J3.suite he3 hd3 na nL nF
    have look : PySem.W.Looks (model X.prog X.w) h3 (typeOf (.ref a)) cls := fun A Q E s k q => wpAny_typeOf_ref (k _ _ he3) (by rw [hz3.1]; exact q)
    have named : ∀ {x : Str} {c : Value} {np : Pos} {Q : Value → Shared → Prop} {E : Value → Shared → Prop}, Names X x c → Q c { s' with heap := h3 } → wpAny (model X.prog X.w) (X.A.mark (some (.ref a))) (eval (.Name x np) X.env) Q E { s' with heap := h3 } := fun {x c np Q E} hc q => by
      rcases hc with ⟨hg, hdbg, hm | ⟨hm, hv, hnn⟩⟩
      · exact ld_glob (X := X.suite a ((a, oe3) :: (X.pn ++ pins))) S3 hg hm q hdbg
      · exact ld_blt (X := X.suite a ((a, oe3) :: (X.pn ++ pins))) S3 hg hm hv q hnn hdbg
    have go : ∀ {hds' : List ExceptHandler} {w' : WX → Ends → WX}, HdN X hds' w' → w' Wout D cls d σ' H' → wpAny (model X.prog X.w) X.A (handleBy (.ref a) X.env hds') (SP X pins D) X.xe { s' with heap := h3 } := by
      intro hds' w' hk
      induction hk with
      | nil =>
        intro w
        refine wpAny_handleBy_nil ?_
        obtain ⟨k1, k2, k3, oe, vs, T, oT, ts', he, hz, hd, h1, hr⟩ := id fl3
        unfold PySem.passOn
        refine wpAny_bind (wpAny_field he hd h1 ?_)
        rw [if_neg (show ¬ ((Value.ref T == Value.none) = true) from by simp)]
        have fin : wpAny (model X.prog X.w) X.A (setFlight (.ref a) X.env.frame) (fun _ s4 => wpAny (model X.prog X.w) X.A (throw (.ref a) : Sem Flow) (SP X pins D) X.xe s4) X.xe { s' with heap := h3 } := by
          rw [hf]
          exact HandSPX.setFlight_upZ fl3 fun h4 hh4 up4 => wpAny_throw (tk _ _ ⟨a, B, sI, pins, σ', H', cls, d, rfl, J, nb, (up.trans up3).trans up4, .inr (.inr (by rw [hs]; exact hh4)), na, os, ag, w⟩)
        first
          | exact wpAny_bind (wpAny_pure (wpAny_bind fin))
          | exact wpAny_bind fin
      | as hi hl hc hsu r ih =>
        intro w
        obtain ⟨b, hb1, hyes, hno⟩ := w
        refine wpAny_handleBy_cons (codeAny_handlers_test ?_) (by intro q; cases q)
        refine named hc ((PySem.W.exm_one (M := model X.prog X.w) (J3.kIn) look hb1).here ?_)
        cases b with
        | false => exact ih (hno rfl)
        | true =>
          refine codeAny_handlers_suite_as (HandSPX.lands_againZ fl3 fun h4 fl4 up4 => ?_)
          have J4 : Inv X pins σ' H' { s' with heap := h4 } := J.landed nb fl4.1 ((up.trans up3).trans up4) os ag
          obtain ⟨oe4, vs4, he4, hz4, hd4⟩ := fl4.there
          have S4 := J4.suite he4 hd4 na nL nF
          refine store_ok (X := X.suite a ((a, oe4) :: (X.pn ++ pins))) (v := .ref a) S4 hN hi (.inl hl) rfl (fun s5 S5 => ?_) (.inr hl)
          refine wpAny_mono ((hsu a oe4 cls d (X.pn ++ pins) hz4 ⟨_, hd4⟩).run [] s5 _ H' _ S5 (hyes rfl a na)) (fun f s6 hsp => ?_) (fun _ _ z => False.elim z)
          cases f with
          | ret u =>
            obtain ⟨v6, σ6, H6, S6, r6, q6⟩ := hsp
            exact gone_ok (S6.unsuite ok) hN hi hl fun s7 J7 => ⟨_, _, _, J7, r6, q6⟩
          | next =>
            obtain ⟨σ6, H6, S6, q6⟩ := hsp
            exact gone_ok (S6.unsuite ok) hN hi hl fun s7 J7 => ⟨_, _, J7, q6⟩
          | brk =>
            obtain ⟨σ6, H6, S6, q6⟩ := hsp
            exact gone_ok (S6.unsuite ok) hN hi hl fun s7 J7 => ⟨_, _, J7, q6⟩
          | cont =>
            obtain ⟨σ6, H6, S6, q6⟩ := hsp
            exact gone_ok (S6.unsuite ok) hN hi hl fun s7 J7 => ⟨_, _, J7, q6⟩
      | no hc hsu r ih =>
        intro w
        obtain ⟨b, hb1, hyes, hno⟩ := w
        refine wpAny_handleBy_cons (codeAny_handlers_test ?_) (by intro q; cases q)
        refine named hc ((PySem.W.exm_one (M := model X.prog X.w) (J3.kIn) look hb1).here ?_)
        cases b with
        | false => exact ih (hno rfl)
        | true =>
          refine codeAny_handlers_suite (HandSPX.lands_againZ fl3 fun h4 fl4 up4 => ?_)
          have J4 : Inv X pins σ' H' { s' with heap := h4 } := J.landed nb fl4.1 ((up.trans up3).trans up4) os ag
          obtain ⟨oe4, vs4, he4, hz4, hd4⟩ := fl4.there
          refine wpAny_mono ((hsu a oe4 cls d (X.pn ++ pins) hz4 ⟨_, hd4⟩).run [] _ _ H' _ (J4.suite he4 hd4 na nL nF) (hyes rfl a na)) (fun f s6 hsp => ?_) (fun _ _ z => False.elim z)
          exact sp_suite ok hsp
    exact go hh w
end
end DL

/-! The law's own asker: try: return (told, ask()) / except C as e: return (tag, e.f, ..) -/
namespace DL
open PySem PySem.Spec PyProof.Rows L2 LamX

def looks (fv : List (Str × V)) : List Str → Option (List V)
  | [] => some []
  | f :: fs => match fv.lookup f, looks fv fs with
    | some v, some vs => some (v :: vs)
    | _, _ => none
/-- e.f, .. -/
inductive AttL (n : Str) : List Expr → List Str → Prop
  | nil : AttL n [] []
  | cons {f : Str} {fs : List Str} {es : List Expr} {pe pa : Pos} (r : AttL n es fs) : AttL n (.Attribute (.Name n pe) f pa :: es) (f :: fs)
def tAtts (i : Nat) (a C : Addr) (cls : Value) (d : Option Addr) (fs : List Str) : TA := fun σ H Q => σ[i]? = some (some (.ref a)) ∧ cls = .ref C ∧ ∃ (dd : Addr) (fv : List (Str × V)) (vs : List V), d = some dd ∧ H dd = some (.xd fv) ∧ looks fv fs = some vs ∧ Q vs H
theorem pa_atts {X : Cx} {a C : Addr} {oe : Obj} {cls : Value} {d : Option Addr} {pn : List (Addr × Obj)} {n : Str} {i : Nat} (T : XfC X.K C) (hz : Zc cls d oe) (hf : ∃ vs, oe.data = .fields vs) (hN : X.N[i]? = some n) (hv : Vis X.env.scope n)
    (hd : (n == ("__debug__" : Str)) = false) (hcd : (n == ("__classdict__" : Str)) = false) : ∀ {es : List Expr} {fs : List Str}, AttL n es fs → (∀ f ∈ fs, PySem.W.findIn X.K (.ref C) f = some none) → PA (X.suite a ((a, oe) :: pn)) es (tAtts i a C cls d fs)
  | _, _, .nil, _ => PA.imp pa_nil fun σ H Q h => by
    obtain ⟨_, _, dd, fv, vs, _, _, e, q⟩ := h
    cases e
    exact q
  | _, _, @AttL.cons _ f fs es pe pa r, hno => by
    have one : PE (X.suite a ((a, oe) :: pn)) (.Attribute (.Name n pe) f pa) _ := pe_xf (cls := cls) (d := d) T (hno f (by simp)) hz hf (pe_var (i := i) hN hv hd hcd)
    refine PA.imp (pa_cons one (pa_atts T hz hf hN hv hd hcd r fun g hg => hno g (by simp [hg]))) fun σ H Q h => ?_
    obtain ⟨e1, e2, dd, fv, vs, e3, e4, e5, q⟩ := h
    unfold looks at e5
    split at e5
    · rename_i v ws l1 l2
      cases e5
      exact ⟨.ref a, e1, rfl, e2, dd, fv, v, e3, e4, l1, e1, e2, dd, fv, ws, e3, e4, l2, q⟩
    · cases e5

abbrev Cls := List (Str × Str × List Str)
def wMet (K : PySem.W.Frag) (cls : Str → Addr) (Q : VK) : Cls → XK
  | [] => fun _ _ _ => False
  | (c, tag, fs) :: l => fun v d H => ∃ b, PySem.W.exmOne K v (.ref (cls c)) = some b ∧ (b = true → v = .ref (cls c) ∧ ∃ (dd : Addr) (fv : List (Str × V)) (vs : List V), d = some dd ∧ H dd = some (.xd fv) ∧ looks fv fs = some vs ∧
      ∀ p, H p = none → Q (.ref p) (upd H p (.tup (.str tag :: vs)))) ∧ (b = false → wMet K cls Q l v d H)
def TMet (K : PySem.W.Frag) (cls : Str → Addr) (told : Str) (l : Cls) : (XK → Hp → VK → Prop) → Hp → VK → Prop := fun tl H Q =>
  tl (wMet K cls Q l) H (fun v H1 => ∀ p, H1 p = none → Q (.ref p) (upd H1 p (.tup [.str told, v])))
/-- the clauses as they are written -/
inductive MetH (n : Str) : List ExceptHandler → Cls → Prop
  | nil : MetH n [] []
  | cons {c tag : Str} {fs : List Str} {es : List Expr} {hds : List ExceptHandler} {l : Cls} {np p p1 p2 p3 : Pos} {k1 k2} (ha : AttL n es fs) (r : MetH n hds l) :
      MetH n (.ExceptHandler (some (.Name c np)) (some n) [.Return (some (.Tuple (.Constant (.str tag) k1 p1 :: es) k2 p2)) p3] p :: hds) ((c, tag, fs) :: l)
/-- what the clauses ask of the text -/
def ClsOk (K : PySem.W.Frag) (mg : Str → Option Value) (cls : Str → Addr) (sg : Scope) (l : Cls) : Prop :=
  ∀ x ∈ l, mg x.1 = some (.ref (cls x.1)) ∧ sg.names.lookup x.1 = some .globalImplicit ∧ (x.1 == ("__debug__" : Str)) = false ∧ XfC K (cls x.1) ∧ (∀ f ∈ x.2.2, PySem.W.findIn K (.ref (cls x.1)) f = some none) ∧ x.2.2.length ≤ 100
theorem hdN_met {Y : Cx} {cls : Str → Addr} {n : Str} {i : Nat} (hN : Y.N[i]? = some n) (hl : Y.env.kindOf n = some .local) (hd : (n == ("__debug__" : Str)) = false) (hcd : (n == ("__classdict__" : Str)) = false) :
    ∀ {hds : List ExceptHandler} {l : Cls}, MetH n hds l → ClsOk Y.K Y.mg cls Y.env.scope l → ∃ w, HdN Y hds w ∧ ∀ (W : WX) (Dn : Ends) (v : Value) (d : Option Addr) (σ : L2.St) (H : Hp), σ.length = Y.N.length → wMet Y.K cls Dn.rt l v d H → w W Dn v d σ H
  | _, _, .nil, _ => ⟨_, .nil, fun _ _ _ _ _ _ _ z => z.elim⟩
  | _, _, @MetH.cons _ c tag fs es hds l np p p1 p2 p3 k1 k2 ha r, ok => by
    obtain ⟨w, h1, h2⟩ := hdN_met hN hl hd hcd r fun x hx => ok x (by simp [hx])
    obtain ⟨m, g, db, xf, no, len⟩ := ok (c, tag, fs) (by simp)
    refine ⟨_, .as hN hl ⟨g, db, .inl m⟩ (fun a oe v d pn hz hf => pss_one (ps_ret (pe_tup (pa_cons pe_str (pa_atts xf hz hf hN (.inl hl) hd hcd ha no))))) h1, fun W Dn v d σ H hs z => ?_⟩
    obtain ⟨b, e, yes, no'⟩ := z
    refine ⟨b, e, fun hb a na => ?_, fun hb => h2 W Dn v d σ H hs (no' hb)⟩
    obtain ⟨ev, dd, fv, vs, e1, e2, e3, q⟩ := yes hb
    have li : i < σ.length := by rw [hs]; exact lt_of_get hN
    have ll : ∀ {fs : List Str} {vs : List V}, looks fv fs = some vs → vs.length = fs.length := by
      intro fs
      induction fs with
      | nil => intro vs h; cases h; rfl
      | cons f fs ih =>
        intro vs h
        unfold looks at h
        split at h
        · rename_i l2; cases h; simp [ih l2]
        · cases h
    refine ⟨set_at li, ev, dd, fv, vs, e1, e2, e3, ?_, fun p hp => q p hp⟩
    have := ll e3
    rw [sizeLine_eq]
    simp only [List.length_cons]
    simp only at len
    omega
theorem met_gives {X : Cx} {cls : Str → Addr} {Ng : List Str} {x a n q told : Str} {sg : Scope} {g : Addr} {cdg : Value} {i : Nat} {h₀ : ExceptHandler} {hds : List ExceptHandler} {l : Cls} {p0 p1 p2 p3 p4 p5 : Pos} {k1 k2} (hN : Ng.Nodup) (hi : Ng[i]? = some n) (hl : sg.names.lookup n = some .local)
    (hd : (n == ("__debug__" : Str)) = false) (hcd : (n == ("__classdict__" : Str)) = false) (hh : MetH n (h₀ :: hds) l) (ok : ClsOk X.K X.mg cls sg l) (h0 : ∀ f : Addr, (L2.start Ng [V.ref f])[0]? = some (some (V.ref f))) :
    GivesTo X Ng x sg g cdg [.Try [.Return (some (.Tuple [.Constant (.str told) k1 p0, .Call (.Name a p1) [] [] p2] k2 p3)) p4] (h₀ :: hds) [] [] p5] a q (TMet X.K cls told l) := by
  intro f c' s H Q tl act hc h
  obtain ⟨w, hw1, hw2⟩ := hdN_met (Y := (cxOf C8.CX0 X.prog X.w X.K X.mg X.base Ng x sg g cdg X.A X.stack s H C8.E0).nox) (cls := cls) hi hl hd hcd hh ok
  refine ⟨_, pss_one (s_tryN (X := (cxOf C8.CX0 X.prog X.w X.K X.mg X.base Ng x sg g cdg X.A X.stack s H C8.E0).nox) (Wout := fun _ _ _ _ => False)
      (tb := fun W D σ H => ∃ Ech : XK, (∀ cls d σ' H', Ech cls d H' → σ'.length = Ng.length → W cls d σ' H') ∧ σ[0]? = some (some (.ref f)) ∧ H c' = some (CodeO c' q) ∧ tl Ech H fun v H1 => ∀ p, H1 p = none → D.rt (.ref p) (upd H1 p (.tup [.str told, v])))
      rfl rfl hN LamX.takes0 (fun W pn xe tk _ => ?_) hw1), ?_⟩
  · refine ⟨fun pins s' σ H' D I h' => ?_⟩
    obtain ⟨Ech, hW, h1, h2, h3⟩ := h'
    have tk' : Takes ((cxOf C8.CX0 X.prog X.w X.K X.mg X.base Ng x sg g cdg X.A X.stack s H C8.E0).tr pn xe) (fun cls d σ H => σ.length = Ng.length → W cls d σ H) := fun u s' ⟨a, B, sI, pins, σ, H, cls, d, e, I, nb, up, sky, na, os, ag, w⟩ =>
      tk u s' ⟨a, B, sI, pins, σ, H, cls, d, e, I, nb, up, sky, na, os, ag, w I.len⟩
    have hp := act _ pn xe Ech p1 p2 tk' hW
    have hq := pss_one (ps_ret (pos := p4) (pe_tup (x1 := k2) (pos := p3) (pa_cons (pe_str (x := told) (j := k1) (pos := p0)) (pa_cons hp pa_nil))))
    refine hq.run pins s' σ H' D I ⟨h1, h2, ?_⟩
    have e2 : (fun (v : V) (H1 : Hp) => ([V.str told, v].length ≤ sizeLine ∧ ∀ p, H1 p = none → D.rt (.ref p) (upd H1 p (.tup [.str told, v])))) = fun v H1 => ∀ p, H1 p = none → D.rt (.ref p) (upd H1 p (.tup [.str told, v])) := by
      funext v H1
      refine propext ⟨fun z => z.2, fun z => ⟨by rw [sizeLine_eq]; simp, z⟩⟩
    show tl Ech H' (fun v H1 => ([V.str told, v].length ≤ sizeLine ∧ ∀ p, H1 p = none → D.rt (.ref p) (upd H1 p (.tup [.str told, v]))))
    rw [e2]
    exact h3
  · exact ⟨wMet X.K cls Q l, fun v d σ' H' z hs => hw2 _ _ v d σ' H' hs z, h0 f, hc, h⟩
end DL

/-! met(lambda: body) over data. -/
namespace DL
open PySem PySem.Spec PyProof.Rows L2 LamX

def hide : Sl → Sl
  | .own _ _ => .un
  | .ownD _ _ => .un
  | x => x
def hideO (r : DEnv) : DEnv := r.map hide
def dlooks (fs : List (Str × D)) : List Str → Option (List D)
  | [] => some []
  | f :: l => match fs.lookup f, dlooks fs l with
    | some v, some vs => some (v :: vs)
    | _, _ => none
def metC (fs : List (Str × D)) (c : Str) : Cls → Option D
  | [] => none
  | (c', tag, gs) :: l => if c = c' then (dlooks fs gs).map fun ds => D.tup (.str tag :: ds) else metC fs c l
def mMet (cs : List Str) (told : Str) (l : Cls) (m : ME) : ME := fun r => match m (hideO r) with
  | .ok d _ => .ok (.tup [.str told, d]) r
  | .exc c fs => if c ∈ cs then optE (metC fs c l) r else .bad
  | .bad => .bad
/-- the def that asks -/
structure MetD (K : PySem.W.Frag) (mg : Str → Option Value) (cls : Str → Addr) (x : Str) (cs : List Str) (told : Str) (l : Cls) : Prop where
  ex : ∃ (st : Stmt) (a : Str) (Ng : List Str) (g : Addr) (fd : FuncData), Fun K x x st g fd ∧ mg x = some (.ref g) ∧ L2.Binds K fd [a] [] ∧ FnScope Ng [a] (defScope st) ∧ Ng[0]? = some a ∧ Vis (defScope st) a ∧ (a == ("__debug__" : Str)) = false ∧ (a == ("__classdict__" : Str)) = false ∧
    ∀ (X : Cx) (cdv : Value) (q : Str), X.K = K → X.mg = mg → GivesTo X Ng x (defScope st) g cdv (defBody st) a q (TMet K cls told l)
  exm : ∀ c ∈ cs, ∀ y ∈ l, PySem.W.exmOne K (.ref (cls c)) (.ref (cls y.1)) = some (decide (c = y.1))
theorem lookup_F {K : PySem.W.Frag} {G : Hp} {f : Str} : ∀ {fv : List (Str × V)} {fs : List (Str × D)} {d : D}, RpF K G fv fs → fs.lookup f = some d → ∃ v, fv.lookup f = some v ∧ Rp K G v d
  | _, _, _, .nil, e => by cases e
  | _, _, _, @RpF.cons _ _ x v d vs ds p q, e => by
    simp only [List.lookup] at e ⊢
    split at e
    · cases e; exact ⟨v, rfl, p⟩
    · exact lookup_F q e
theorem looks_F {K : PySem.W.Frag} {G : Hp} {fv : List (Str × V)} {fs : List (Str × D)} (h : RpF K G fv fs) : ∀ {gs : List Str} {ds : List D}, dlooks fs gs = some ds → ∃ vs, looks fv gs = some vs ∧ RpL K G vs ds
  | [], _, e => by cases e; exact ⟨[], rfl, .nil⟩
  | g :: gs, _, e => by
    unfold dlooks at e
    split at e
    · rename_i v vs e1 e2
      cases e
      obtain ⟨u, a1, a2⟩ := lookup_F h e1
      obtain ⟨us, b1, b2⟩ := looks_F h e2
      refine ⟨u :: us, ?_, .cons a2 b2⟩
      unfold looks
      rw [a1, b1]
    · cases e
section
variable {C : Fc} {r : DEnv} {ad : Nat → Addr} {σ : L2.St} {G H H1 : Hp}
theorem ExtT.wr {T : List (Addr × Str)} (e : ExtT T H H1) {b : Addr} (h : DL.wr (H b)) : DL.wr (H1 b) := by
  cases q : H b with
  | none => rw [q] at h; exact h.elim
  | some o =>
    rw [q] at h
    rw [e.non b o q fun ps z => by rw [z] at h; exact h]
    exact h
theorem Stt.tab (s : Stt C r ad σ G H) (e : ExtT C.T H H1) (t : Tabs C.T H1) : Stt C r ad σ G H1 := by
  have hs := s.hst
  refine ⟨⟨fun b o q => e.non b o (hs.sub b o q) fun ps z => hs.gnt b ps (by rw [q, z]), hs.gnt, hs.g0, fun b n => e.dom b (hs.dom b n), fun b n => e.wr (hs.domN b n), fun b o q n t => e.keep b o (hs.keep b o q n t) t, hs.nofz, t⟩, s.len, s.dat, fun i k l q => ?_, fun i t l q => ?_, s.inj⟩
  · obtain ⟨a, b, c, xs, h1, h2⟩ := s.own i k l q
    exact ⟨a, b, c, xs, e.non _ _ h1 (fun ps z => by cases z), h2⟩
  · obtain ⟨a, b, c, h1⟩ := s.ownD i t l q
    refine ⟨a, b, c, h1.up (Same.refl _) ?_⟩
    rcases h1 with ⟨_, kvs, q, _⟩ | ⟨_, kvs, q, _⟩ <;> rw [q, e.non _ _ q (fun ps z => by cases z)]
theorem Kp.tab (e : ExtT C.T H H1) : Kp C r r ad G H G H1 :=
  ⟨Same.refl _, fun _ z => z, fun b n => e.dom b n, fun b n => e.wr n, fun b u q _ t => e.keep b u q t, fun _ _ z _ => z⟩
theorem hide_dat {i : Nat} {d : D} (h : (hideO r)[i]? = some (.dat d)) : r[i]? = some (.dat d) := by
  unfold hideO at h
  rw [List.getElem?_map] at h
  cases q : r[i]? with
  | none => rw [q] at h; cases h
  | some x => rw [q] at h; cases x <;> simp [hide] at h ⊢ <;> exact h
theorem hide_no {i : Nat} : ¬ isOwn (hideO r) i := by
  unfold hideO
  rintro (⟨k, l, h⟩ | ⟨k, l, h⟩) <;> rw [List.getElem?_map] at h <;> cases q : r[i]? with
  | none => rw [q] at h; cases h
  | some x => rw [q] at h; cases x <;> simp [hide] at h
theorem Stt.hidden (s : Stt C r ad σ G H) : Stt (fc0 C.K C.cls G H) (hideO r) ad σ G H := by
  refine ⟨⟨s.hst.sub, s.hst.gnt, Same.refl _, fun _ z => z, fun _ z => z, fun _ _ z _ _ => z, fun _ _ z => z, fun p hp => by cases hp⟩, ?_, fun i d h => s.dat i d (hide_dat h), fun i k l h => absurd (.inl ⟨k, l, h⟩) hide_no, fun i k l h => absurd (.inr ⟨k, l, h⟩) hide_no, fun i j h => absurd h hide_no⟩
  unfold hideO
  rw [List.length_map]
  exact s.len
end
section
variable {X : Cx} {C : Fc} {E : XK}
theorem wMet_of {K : PySem.W.Frag} {cls : Str → Addr} {Q : VK} {c : Str} {dd : Addr} {fv : List (Str × V)} {fs : List (Str × D)} {G H : Hp} {d : D} (hd : H dd = some (.xd fv)) (pf : RpF K G fv fs) :
    ∀ {l : Cls}, (∀ y ∈ l, PySem.W.exmOne K (.ref (cls c)) (.ref (cls y.1)) = some (decide (c = y.1))) → metC fs c l = some d →
      (∀ p vs tag ds, d = .tup (.str tag :: ds) → RpL K G vs ds → H p = none → Q (.ref p) (upd H p (.tup (.str tag :: vs)))) → wMet K cls Q l (.ref (cls c)) (some dd) H
  | [], _, e, _ => by cases e
  | (c', tag, gs) :: l, ex, e, k => by
    refine ⟨_, ex (c', tag, gs) (by simp), fun h => ?_, fun h => ?_⟩
    · have h := of_decide_eq_true h
      simp only at h
      subst h
      unfold metC at e
      rw [if_pos rfl] at e
      cases q : dlooks fs gs with
      | none => rw [q] at e; cases e
      | some ds =>
        rw [q] at e
        cases e
        obtain ⟨vs, a, b⟩ := looks_F pf q
        exact ⟨rfl, dd, fv, vs, rfl, hd, a, fun p hp => k p vs tag ds rfl b hp⟩
    · have h := of_decide_eq_false h
      simp only at h
      unfold metC at e
      rw [if_neg h] at e
      exact wMet_of hd pf (fun y hy => ex y (by simp [hy])) e k
theorem e_met {x : Str} {cs : List Str} {told : Str} {l : Cls} {m : ME} {c P : Addr} {k j : Nat} {params : Arguments} {body : Expr} {scope : Scope} {p lpos pos : Pos} (M : MetD C.K X.mg C.cls x cs told l)
    (TB : TabB X.base X.mg c P) (hcode : X.env.code = .ref c) (hmT : (P, X.env.qual ++ "<lambda>") ∈ C.T) (hu : ∀ p ∈ C.T, p.1 = P → p.2 = X.env.qual ++ "<lambda>") (hr : Room j X.A) 
    (hbody : ∀ (G H0 : Hp) (A : Around) (outer : List Env) (s : Shared) (H : Hp) (E : XK) (f c' : Addr), Room k (A.deeper (lamEnv X scope s.heap.objs.size f c')) → PE (lamCx X A outer s H E scope f c') body (tE (fc0 C.K C.cls G H0) E m))
    (L : LamS X.env.scope scope) (hj : k + 2 ≤ j := by decide) (hK : X.K = C.K := by rfl) (hdef : defaultsOf params X.env = ([], []) := by rfl)
    (hbind : ∀ (q : Str) (cl : List (Str × Addr)) (pm cv ctv : Value), bindArgs (PySem.W.kla_fn "<lambda>" q params body scope cl pm cv ctv) ⟨[], []⟩ = pure [] := by intros; rfl)
    (hg : Gl X x := by rfl) (hdb : (x == ("__debug__" : Str)) = false := by decide) :
    PE X (.Call (.Name x p) [.Lambda params body scope lpos] [] pos) (tE C E (mMet cs told l m)) := by
  obtain ⟨st, a, Ng, g, fd, F, hm, hb, Sg, h0, hv, hd, hcd, gv⟩ := M.ex
  rw [← hK] at F hb
  refine PE.imp (e_lam (t := fun E σ H Q => ∃ G, tE (fc0 C.K C.cls G H) E m σ H Q) F hm hb Sg h0 hv (fun cdv => gv X cdv _ hK rfl) TB hcode hmT hu (hr.mono hj) L (fun A outer s H E f c' hr2 => ⟨fun pins s1 σ H1 Q I h => ?_⟩) hdef hbind hg hdb hd hcd) fun σ H Q h => ?_
  · obtain ⟨G, h⟩ := h
    exact (hbody G H1 A outer s H E f c' hr2).run pins s1 σ H1 Q I h
  · obtain ⟨r, ad, G, s, k⟩ := h
    refine ⟨s.hst.tabs, fun H1 e1 t1 => ?_⟩
    have s1 := s.tab e1 t1
    have sh := s1.hidden
    refine ⟨G, hideO r, ad, G, sh, ?_⟩
    unfold mMet at k
    cases q : m (hideO r) with
    | bad => rw [q] at k; exact k.elim
    | ok d r' =>
      rw [q] at k
      intro v G' H' s' _ pv p hp
      have gr : Grow G H1 G' H' := s'.hst.grow0
      have s2 := s1.grow gr
      have lay := Grow.lay (o := .tup [.str told, v]) s2.hst.sub s2.hst.gnt hp (fun ps z => by cases z)
      exact k _ _ _ (s2.grow lay) ((Kp.tab e1).trans ((Kp.grow gr).trans (Kp.grow lay))) (.tup upd_same (.cons (.str _) (.cons (pv.up lay.g) .nil)))
    | exc c0 fs =>
      rw [q] at k
      simp only at k
      intro dd fv G' H' s' hdd pf
      by_cases hc : c0 ∈ cs
      · rw [if_pos hc] at k
        cases qq : metC fs c0 l with
        | none => rw [qq] at k; exact k.elim
        | some d =>
          rw [qq] at k
          refine wMet_of hdd pf (M.exm c0 hc) qq fun p vs tag ds ed pv hp => ?_
          have gr : Grow G H1 G' H' := Hst.grow0 s'
          have s2 := s1.grow gr
          have lay := Grow.lay (o := .tup (.str tag :: vs)) s2.hst.sub s2.hst.gnt hp (fun ps z => by cases z)
          refine k _ _ _ (s2.grow lay) ((Kp.tab e1).trans ((Kp.grow gr).trans (Kp.grow lay))) ?_
          rw [ed]
          exact .tup upd_same (.cons (.str _) (pv.up lay.g))
      · rw [if_neg hc] at k; exact k.elim
/-- calls inside a lambda's body -/
theorem pxL {Y : Cx} {A : Around} {outer : List Env} {s : Shared} {H : Hp} {E : XK} {scope : Scope} {f c' : Addr} : Passes (L2.CX Y.prog Y.w) (lamCx Y A outer s H E scope f c') E :=
  passes_call (takes_of rfl rfl rfl rfl) (fun _ _ _ _ h => h)
end
end DL

/-! Defs that make lambdas, and the law itself. -/
namespace DL
open PySem PySem.Spec PyProof.Rows L2 LamX

abbrev fcT (K : PySem.W.Frag) (cls : Str → Addr) (T : List (Addr × Str)) (G H : Hp) : Fc := ⟨K, cls, G, H, [], T⟩
def spT (K : PySem.W.Frag) (cls : Str → Addr) (T : List (Addr × Str)) (F : List D → FR) : Sp := fun vs H Q E => ∃ G ds, Same G H ∧ (∀ b ps, G b ≠ some (.tbl ps)) ∧ RpL K G vs ds ∧ Tabs T H ∧
  match F ds with
  | .ok d => ∀ v G' H', Hst (fcT K cls T G H) G' H' → Rp K G' v d → Q v H'
  | .own l => False
  | .exc c fs => ∀ dd fv G' H', Hst (fcT K cls T G H) G' H' → H' dd = some (.xd fv) → RpF K G' fv fs → E (.ref (cls c)) (some dd) H'
  | .bad => False
structure DfnL (K : PySem.W.Frag) (mg : Str → Option Value) (x : Str) (st : Stmt) (ps : List Str) (c : Addr) : Prop where
  ex : ∃ (f : Addr) (oc : Value) (od : Option Addr) (kV doc pm : Value) (an : Option Addr) (ct : Value) (osl : Array (Option Value)),
    K.lookup f = some ⟨oc, od, .func (PySem.W.fnOf x x (defArgs st) (defBody st) (defScope st) .none kV doc pm an (.ref c) ct), osl⟩ ∧ PySem.W.codeIn K (.ref c) x = true ∧ PySem.W.keepIn K (.ref f) = true ∧ mg x = some (.ref f) ∧
      Binds K (PySem.W.fnOf x x (defArgs st) (defBody st) (defScope st) .none kV doc pm an (.ref c) ct) ps []
section
variable {P : Program} {w : World} {K : PySem.W.Frag} {mg : Str → Option Value} {base : Heap} {cls : Str → Addr} {T : List (Addr × Str)}
theorem spT_len {M : MS} {n k : Nat} {vs : List V} {H : Hp} {Q : VK} {E : XK} (h : spT K cls T (runF M n k) vs H Q E) : vs.length = n := by
  obtain ⟨G, ds, _, _, p, _, h⟩ := h
  rw [p.length]
  unfold runF at h
  by_cases e : ds.length = n
  · exact e
  · rw [if_neg e] at h; exact h.elim
theorem dfT {x : Str} {st : Stmt} {N ps : List Str} {M : MS} {c : Addr} (k : Nat) (d : DfnL K mg x st ps c) (S : FnScope N ps (defScope st))
    (hbody : ∀ (f : Addr) (A : Around) (outer : List Env) (s : Shared) (H G : Hp) (E : XK), Room k (A.deeper (envOfC x (defScope st) s.heap.objs.size f (.ref c))) →
      PSs (cxOf (L2.CX P w) P w K mg base N x (defScope st) f (.ref c) A outer s H E) (defBody st) (tS (fcT K cls T G H) E M)) :
    Df P w K mg base (k + 1) x (spT K cls T (runF M ps.length (N.length - ps.length))) := by
  obtain ⟨f, oc, od, kV, doc, pm, an, ct, osl, lk, hc, kp, m, b⟩ := d.ex
  have hpl : ps.length ≤ N.length := by have := congrArg List.length S.pre; rw [List.length_take] at this; omega
  refine ⟨f, _, ps, fn_of lk hc S (fun vs H Q E h => spT_len h) (fun A outer s H vs Q E hr h => ?_), m, kp, b⟩
  have hl' := spT_len h
  obtain ⟨G, ds, sub, gnt, p, tb, h⟩ := h
  have hl : ds.length = ps.length := by rw [← p.length]; exact hl'
  refine ⟨_, hbody f A outer s H G E hr, ?_⟩
  have hst : Hst (fcT K cls T G H) G H := ⟨sub, gnt, Same.refl _, fun _ z => z, fun _ z => z, fun _ _ z _ _ => z, fun _ _ z => z, tb⟩
  have st := stt_start (C := fcT K cls T G H) (N := N) hst p (by rw [hl]; exact hpl)
  refine ⟨_, _, G, st, ?_⟩
  unfold runF at h
  rw [if_pos hl] at h
  rw [hl]
  generalize M (ds.map Sl.dat ++ List.replicate (N.length - ps.length) Sl.un) = z at h
  cases z with
  | nx r => exact fun ad' σ' G' H' s' _ => h .non G' H' s'.hst .non
  | rt d r => exact fun v ad' σ' G' H' s' pv => h v G' H' s'.hst pv
  | rtO l r => exact h.elim
  | exc c fs => exact fun dd fv G' H' s' hd pf => h dd fv G' H' s' hd pf
  | bk r => exact h.elim
  | ct r => exact h.elim
  | bad => exact h.elim
end
section
variable {C : Fc} {r : DEnv} {ad : Nat → Addr} {σ : L2.St} {G H G' H' : Hp}
theorem Hst.step (s : Hst C G H) (w : Hst (fcT C.K C.cls C.T G H) G' H') : Hst C G' H' :=
  ⟨w.sub, w.gnt, s.g0.trans w.g0, fun b n => w.dom b (s.dom b n), fun b n => w.domN b (s.domN b n), fun b o q n t => w.keep b o (s.keep b o q n t) (by simp) t, fun b n z => w.nofz b (s.domN b n) (s.nofz b n z), w.tabs⟩
theorem Stt.step (s : Stt C r ad σ G H) (w : Hst (fcT C.K C.cls C.T G H) G' H') : Stt C r ad σ G' H' := by
  have nt : ∀ {a : Addr} {o : HO}, H a = some o → (∀ ps, o ≠ .tbl ps) → H' a = some o := fun {a o} e n => w.keep a o e (by simp) fun p hp z => by
    obtain ⟨ps, e1, _⟩ := s.hst.tabs p hp
    rw [← z, e] at e1
    exact n ps (Option.some.inj e1)
  refine ⟨s.hst.step w, s.len, fun i d q => ?_, fun i k l q => ?_, fun i t l q => ?_, s.inj⟩
  · obtain ⟨v, a, b⟩ := s.dat i d q
    exact ⟨v, a, b.up w.g0⟩
  · obtain ⟨a, b, c, xs, h1, h2⟩ := s.own i k l q
    exact ⟨a, b, w.nofz _ (wr_lst h1) c, xs, nt h1 (fun ps z => by cases z), h2.up w.g0⟩
  · obtain ⟨a, b, c, h1⟩ := s.ownD i t l q
    refine ⟨a, b, w.nofz _ h1.wr c, h1.up w.g0 ?_⟩
    rcases h1 with ⟨_, kvs, q, _⟩ | ⟨_, kvs, q, _⟩ <;> rw [q, nt q (fun ps z => by cases z)]
theorem Kp.step (w : Hst (fcT C.K C.cls C.T G H) G' H') : Kp C r r ad G H G' H' :=
  ⟨w.g0, fun _ z => z, fun b n => w.dom b n, fun b n => w.domN b n, fun b u q _ t => w.keep b u q (by simp) t, fun b z y _ => w.nofz b z y⟩
end
section
variable {X : Cx} {C : Fc} {E : XK} {pos : Pos} {x : Str} {p : Pos} {e : Expr} {es : List Expr} {k j : Nat} {F : List D → FR} {a : MA}
def mCallT (F : List D → FR) (a : MA) : ME := fun r => match a r with
  | .ok ds r1 => (match F ds with
    | .ok d => .ok d r1
    | .own _ => .bad
    | .exc c fs => .exc c fs
    | .bad => .bad)
  | .exc c fs => .exc c fs
  | .bad => .bad
theorem tE_callT : ∀ σ H Q, tE C E (mCallT F a) σ H Q → tA C E a σ H (fun vs H1 => spT C.K C.cls C.T F vs H1 Q E) := by
  intro σ H Q ⟨r, ad, G, s, h⟩
  refine ⟨r, ad, G, s, ?_⟩
  unfold mCallT at h
  unfold kA
  cases q : a r with
  | bad => rw [q] at h; exact h
  | exc c fs => rw [q] at h; exact h
  | ok ds r1 =>
    rw [q] at h
    intro vs G1 H1 s1 k1 p1
    refine ⟨G1, ds, s1.hst.sub, s1.hst.gnt, p1, s1.hst.tabs, ?_⟩
    cases z : F ds with
    | ok d =>
      simp only [z] at h ⊢
      exact fun v G' H' w pv => h v G' H' (s1.step w) (k1.trans (Kp.step w)) pv
    | own l => simp only [z] at h ⊢; exact h
    | exc c fs =>
      simp only [z] at h ⊢
      exact fun dd fv G' H' w hd pf => h dd fv G' H' (s1.hst.step w) hd pf
    | bad => simp only [z] at h ⊢; exact h
theorem e_dfT (d : Df X.prog X.w X.K X.mg X.base k x (spT C.K C.cls C.T F)) (hr : Room j X.A) (hx : Passes (L2.CX X.prog X.w) X E) (ha : PA X (e :: es) (tA C E a)) (hk : k ≤ j := by decide) (hg : Gl X x := by rfl) (hdb : (x == ("__debug__" : Str)) = false := by decide)
    (he : starEach (e :: es) X.env = (false, eval e X.env) :: starEach es X.env := by rfl) (hpl : (backTo pos (starEach es X.env)).any (·.1) = false := by rfl) : PE X (.Call (.Name x p) (e :: es) [] pos) (tE C E (mCallT F a)) := by
  obtain ⟨f, fd, ps, o, m, kp, b⟩ := d.ex
  refine PE.imp (pe_call (dvs := []) o (hr.mono hk) hg m kp b .nil hx ha hdb he hpl) fun σ H Q h => ?_
  have q := tE_callT σ H Q h
  simpa only [tCall, List.append_nil] using q
end
/-- the law's own start -/
theorem spT_law {K : PySem.W.Frag} {cls : Str → Addr} {T : List (Addr × Str)} {F : List D → FR} {H : Hp} {a : Addr} {ns : List Int} {E : XK} (hT : ∀ p ∈ T, H p.1 = some (.tbl #[])) (hS : SqL K H a (ns.map V.int)) (hF : F [.scr ns] = .ok (.bl true)) :
    spT K cls T F [.ref a] H (fun v _ => v = .bl true) E := by
  let G : Hp := fun b => match H b with
    | some (.tbl _) => none
    | o => o
  have at_ : ∀ {b o}, H b = some o → (∀ ps, o ≠ .tbl ps) → G b = some o := fun {b o} e n => by
    show (match H b with
      | some (.tbl _) => none
      | o => o) = some o
    rw [e]
    cases o <;> first | rfl | exact absurd rfl (n _)
  refine ⟨G, [.scr ns], fun b o e => ?_, fun b ps e => ?_, .cons (.scr ?_) .nil, fun p hp => TabS.nil (hT p hp), ?_⟩
  · have e' : (match H b with
      | some (.tbl _) => none
      | o => o) = some o := e
    split at e'
    · cases e'
    · exact e'
  · have e' : (match H b with
      | some (.tbl _) => none
      | o => o) = some (.tbl ps) := e
    split at e'
    · cases e'
    · rename_i n; exact n _ e'
  · rcases hS with (h | ⟨o, h⟩) | h
    · exact .inl (.inl (at_ h (fun ps z => by cases z)))
    · exact .inl (.inr ⟨o, at_ h (fun ps z => by cases z)⟩)
    · exact .inr h
  · rw [hF]
    intro v G' H' _ pv
    cases pv
    rfl
end DL

/-! Defs with defaults, called by place and by keywords. -/
namespace DL
open PySem PySem.Spec PyProof.Rows L2 LamX

/-- where a parameter's value comes from: by place, a default, a keyword -/
inductive Sel where
  | p (i : Nat)
  | d (i : Nat)
  | k (i : Nat)
def Sel.of {α : Type} (us its ws : List α) : Sel → Option α
  | .p i => us[i]?
  | .d i => its[i]?
  | .k i => ws[i]?
def pick {α : Type} (sel : List Sel) (us its ws : List α) : List α := sel.filterMap (Sel.of us its ws)
theorem paired_at {α β : Type} {R : α → β → Prop} : ∀ {l : List α} {m : List β}, Paired R l m → ∀ i : Nat, (l[i]? = none ∧ m[i]? = none) ∨ ∃ a b, l[i]? = some a ∧ m[i]? = some b ∧ R a b
  | _, _, .nil, i => .inl ⟨by simp, by simp⟩
  | _, _, .cons h t, 0 => .inr ⟨_, _, rfl, rfl, h⟩
  | _, _, .cons h t, i + 1 => by simpa using paired_at t i
theorem rpL_at {K : PySem.W.Frag} {G : Hp} : ∀ {l : List V} {m : List D}, RpL K G l m → ∀ i : Nat, (l[i]? = none ∧ m[i]? = none) ∨ ∃ a b, l[i]? = some a ∧ m[i]? = some b ∧ Rp K G a b
  | _, _, .nil, i => .inl ⟨by simp, by simp⟩
  | _, _, .cons h t, 0 => .inr ⟨_, _, rfl, rfl, h⟩
  | _, _, .cons h t, i + 1 => by simpa using rpL_at t i
theorem pick_vals {vs its' zs : List V} {us its ws : List Value} (h1 : Vals vs us) (h2 : Vals its' its) (h3 : Vals zs ws) : ∀ sel, Vals (pick sel vs its' zs) (pick sel us its ws)
  | [] => .nil
  | x :: sel => by
    have r := pick_vals h1 h2 h3 sel
    have one : (Sel.of vs its' zs x = none ∧ Sel.of us its ws x = none) ∨ ∃ a b, Sel.of vs its' zs x = some a ∧ Sel.of us its ws x = some b ∧ RelV a b := by
      cases x with
      | p i => exact paired_at h1 i
      | d i => exact paired_at h2 i
      | k i => exact paired_at h3 i
    unfold pick at r ⊢
    rcases one with ⟨a, b⟩ | ⟨a, b, e1, e2, q⟩
    · rw [List.filterMap_cons_none a, List.filterMap_cons_none b]; exact r
    · rw [List.filterMap_cons_some e1, List.filterMap_cons_some e2]; exact .cons q r
theorem pick_rp {K : PySem.W.Frag} {G : Hp} {vs its' zs : List V} {us its ws : List D} (h1 : RpL K G vs us) (h2 : RpL K G its' its) (h3 : RpL K G zs ws) : ∀ sel, RpL K G (pick sel vs its' zs) (pick sel us its ws)
  | [] => .nil
  | x :: sel => by
    have r := pick_rp h1 h2 h3 sel
    have one : (Sel.of vs its' zs x = none ∧ Sel.of us its ws x = none) ∨ ∃ a b, Sel.of vs its' zs x = some a ∧ Sel.of us its ws x = some b ∧ Rp K G a b := by
      cases x with
      | p i => exact rpL_at h1 i
      | d i => exact rpL_at h2 i
      | k i => exact rpL_at h3 i
    unfold pick at r ⊢
    rcases one with ⟨a, b⟩ | ⟨a, b, e1, e2, q⟩
    · rw [List.filterMap_cons_none a, List.filterMap_cons_none b]; exact r
    · rw [List.filterMap_cons_some e1, List.filterMap_cons_some e2]; exact .cons q r
section
variable {K : PySem.W.Frag} {x qual : Str} {params : Arguments} {body : List Stmt} {scope : Scope} {dvs : List V} {f : Addr} {fd : FuncData} {ps ks : List Str} {sel : List Sel} {n : Nat}
theorem bindK (F : FunD K x qual params body scope dvs [] f fd) (hd : dvs ≠ [])
    (h : ∀ (T : Addr) (kV doc pm : Value) (an : Option Addr) (cdv ct : Value) (us its ws : List Value), us.length = n → its.length = dvs.length → ws.length = ks.length →
      ∃ k, bindArgs (PySem.W.fnOf x qual params body scope (.ref T) kV doc pm an cdv ct) ⟨us, ks.zip ws⟩ = seqItems? (.ref T) >>= k ∧ k (some its.toArray) = pure (ps.zip (pick sel us its ws))) :
    ∃ its, KBn K fd ps n ks (fun us ws => pick sel us its ws) (fun vs zs => pick sel vs dvs zs) := by
  obtain ⟨oc, od, dV, kV, doc, pm, an, cdv, ct, osl, rfl, lk, hcd, hD, _⟩ := F.ex
  rcases hD with ⟨e, _⟩ | ⟨_, T, o, its, m, rfl, lT, oT, rT⟩
  · exact absurd e hd
  · refine ⟨its, ⟨fun s us ws X l1 l2 => ?_, fun r1 r2 => pick_vals r1 rT r2 sel⟩⟩
    obtain ⟨k, e1, e2⟩ := h T kV doc pm an cdv ct us its ws l1 rT.length.symm l2
    refine BindsTo.of_looks fun M => ?_
    rw [e1]
    exact looks_items X lT oT (.of_pure e2)
end
/-- a def with defaults as the top has left it -/
structure DfnD (K : PySem.W.Frag) (mg : Str → Option Value) (x : Str) (st : Stmt) (dvs : List V) : Prop where
  ex : ∃ f fd, FunD K x x (defArgs st) (defBody st) (defScope st) dvs [] f fd ∧ mg x = some (.ref f)
structure DfD (P : Program) (w : World) (K : PySem.W.Frag) (mg : Str → Option Value) (base : Heap) (k : Nat) (x : Str) (st : Stmt) (dvs : List V) (ps : List Str) (sp : Sp) : Prop where
  ex : ∃ f fd, FnOk P w K mg base (L2.CX P w) k f fd ps sp ∧ mg x = some (.ref f) ∧ FunD K x x (defArgs st) (defBody st) (defScope st) dvs [] f fd
section
variable {P : Program} {w : World} {K : PySem.W.Frag} {mg : Str → Option Value} {base : Heap} {cls : Str → Addr}
theorem dfD {x : Str} {st : Stmt} {N ps : List Str} {M : MS} {dvs : List V} (k : Nat) (d : DfnD K mg x st dvs) (S : FnScope N ps (defScope st))
    (hbody : ∀ (f : Addr) (cdv : Value) (A : Around) (outer : List Env) (s : Shared) (H G : Hp) (E : XK), Room k (A.deeper (envOfC x (defScope st) s.heap.objs.size f cdv)) →
      PSs (cxOf (L2.CX P w) P w K mg base N x (defScope st) f cdv A outer s H E) (defBody st) (tS (fc0 K cls G H) E M)) :
    DfD P w K mg base (k + 1) x st dvs ps (spF K cls (runF M ps.length (N.length - ps.length))) := by
  obtain ⟨f, fd, F, m⟩ := d.ex
  have hpl : ps.length ≤ N.length := by have := congrArg List.length S.pre; rw [List.length_take] at this; omega
  refine ⟨f, fd, F.ok S (fun vs H Q E h => ?_) (fun cdv A outer s H vs Q E hr h => ?_), m, F⟩
  · obtain ⟨G, ds, _, _, p, h⟩ := h
    rw [p.length]
    unfold runF at h
    by_cases e : ds.length = ps.length
    · exact e
    · rw [if_neg e] at h; exact h.elim
  · obtain ⟨G, ds, sub, gnt, p, h⟩ := h
    refine ⟨_, hbody f cdv A outer s H G E hr, ?_⟩
    have hl : ds.length = ps.length := by
      unfold runF at h
      by_cases e : ds.length = ps.length
      · exact e
      · rw [if_neg e] at h; exact h.elim
    have hst : Hst (fc0 K cls G H) G H := ⟨sub, gnt, Same.refl _, fun _ z => z, fun _ z => z, fun _ _ z _ _ => z, fun _ _ z => z, fun p hp => by cases hp⟩
    have st := stt_start (C := fc0 K cls G H) (N := N) hst p (by rw [hl]; exact hpl)
    refine ⟨_, _, G, st, ?_⟩
    unfold runF at h
    rw [if_pos hl] at h
    rw [hl]
    generalize M (ds.map Sl.dat ++ List.replicate (N.length - ps.length) Sl.un) = z at h
    cases z with
    | nx r => exact fun ad' σ' G' H' s' _ => h .non G' H' s'.hst.grow0 .non
    | rt d r => exact fun v ad' σ' G' H' s' pv => h v G' H' s'.hst.grow0 pv
    | rtO l r => exact fun p xs ad' σ' G' H' s' np h0 g' h' pv => h p xs G' H' s'.hst.grow0 h0 g' h' pv
    | exc c fs => exact fun dd fv G' H' s' hd pf => h dd fv G' H' s'.grow0 hd pf
    | bk r => exact h.elim
    | ct r => exact h.elim
    | bad => exact h.elim
end
def mCallK (F : List D → FR) (sel : List Sel) (dd : List D) (n m : Nat) (a b : MA) : ME := fun r => match a r with
  | .ok ds r1 => (match b r1 with
    | .ok zs r2 => if ds.length = n ∧ zs.length = m then (match F (pick sel ds dd zs) with
      | .ok d => .ok d r2
      | .own _ => .bad
      | .exc c fs => .exc c fs
      | .bad => .bad) else .bad
    | .exc c fs => .exc c fs
    | .bad => .bad)
  | .exc c fs => .exc c fs
  | .bad => .bad
section
variable {X : Cx} {C : Fc} {E : XK} {pos kpos : Pos} {x : Str} {p : Pos} {e : Expr} {es : List Expr} {kws : List Keyword} {k j n : Nat} {F : List D → FR} {a b : MA} {st : Stmt} {dvs : List V} {dd : List D} {ps ks : List Str} {sel : List Sel} {nm : Option Str}
theorem k_nil : PK X [] (tA C E aNil) := ⟨fun pos pins s σ H Q I ⟨r, ad, G, st, k⟩ => pk_nil.run pos pins s σ H Q I (k [] G H st (Kp.refl _ _ _ _ _) .nil)⟩
theorem k_cons {me : ME} (ha : PE X e (tE C E me)) (hb : PK X kws (tA C E b)) : PK X (⟨nm, e, kpos⟩ :: kws) (tA C E (aCons me b)) := by
  refine ⟨fun pos pins s σ H Q I ⟨r, ad, G, s0, k⟩ => (pk_cons ha hb).run pos pins s σ H Q I ⟨r, ad, G, s0, ?_⟩⟩
  unfold aCons at k
  cases ea : me r with
  | bad => rw [ea] at k; exact k.elim
  | exc c fs => rw [ea] at k; exact k
  | ok x r1 =>
    rw [ea] at k
    intro v G1 H1 s1 g1 p1
    refine ⟨r1, ad, G1, s1, ?_⟩
    cases eb : b r1 with
    | bad => simp only [eb] at k; exact k.elim
    | exc c fs => simp only [eb] at k; exact k
    | ok l r2 =>
      simp only [eb] at k
      intro vs G2 H2 s2 g2 p2
      exact k (v :: vs) G2 H2 s2 (g1.trans g2) (.cons (p1.up g2.g) p2)
theorem e_dk (d : DfD X.prog X.w X.K X.mg X.base k x st dvs ps (spF C.K C.cls F)) (hr : Room j X.A) (hx : Passes (L2.CX X.prog X.w) X E) (ha : PA X (e :: es) (tA C E a)) (hb : PK X kws (tA C E b)) (hdv : ∀ G, RpL C.K G dvs dd)
    (bk : ∀ f fd, FunD X.K x x (defArgs st) (defBody st) (defScope st) dvs [] f fd → ∃ its, KBn X.K fd ps n ks (fun us ws => pick sel us its ws) (fun vs zs => pick sel vs dvs zs))
    (hk : k ≤ j := by decide) (hg : Gl X x := by rfl) (hdb : (x == ("__debug__" : Str)) = false := by decide) (hall : (backToKw pos (keywordEach kws X.env)).all (·.1.isSome) = true := by rfl) (hks : (backToKw pos (keywordEach kws X.env)).filterMap (·.1) = ks := by rfl)
    (he : starEach (e :: es) X.env = (false, eval e X.env) :: starEach es X.env := by rfl) (hpl : ((backTo pos (starEach (e :: es) X.env)).any (·.1) || (backToKw pos (keywordEach kws X.env)).any (·.1.isNone)) = false := by rfl) :
    PE X (.Call (.Name x p) (e :: es) kws pos) (tE C E (mCallK F sel dd n ks.length a b)) := by
  obtain ⟨f, fd, o, m, fn⟩ := d.ex
  obtain ⟨its, kb⟩ := bk f fd fn
  refine PE.imp (pe_callN o (hr.mono hk) hg m fn.kp kb hx ha hb hall hks hdb he hpl) fun σ H Q h => ?_
  obtain ⟨r, ad, G, s, h⟩ := h
  refine ⟨r, ad, G, s, ?_⟩
  unfold mCallK at h
  cases q : a r with
  | bad => rw [q] at h; exact h.elim
  | exc c fs => rw [q] at h; exact h
  | ok ds r1 =>
    rw [q] at h
    simp only at h
    intro vs G1 H1 s1 k1 p1
    refine ⟨r1, ad, G1, s1, ?_⟩
    cases q2 : b r1 with
    | bad => rw [q2] at h; exact h.elim
    | exc c fs => rw [q2] at h; exact h
    | ok zs r2 =>
      rw [q2] at h
      simp only at h
      intro us G2 H2 s2 k2 p2
      by_cases hl : ds.length = n ∧ zs.length = ks.length
      · rw [if_pos hl] at h
        refine ⟨by rw [p1.length]; exact hl.1, by rw [p2.length]; exact hl.2, G2, _, s2.hst.sub, s2.hst.gnt, pick_rp (p1.up k2.g) (hdv G2) p2 sel, ?_⟩
        cases z : F (pick sel ds dd zs) with
        | ok d =>
          simp only [z] at h ⊢
          exact fun v G' H' gr pv => h v G' H' (s2.grow gr) ((k1.trans k2).trans (Kp.grow gr)) pv
        | own l => simp only [z] at h; exact h.elim
        | exc c fs =>
          simp only [z] at h ⊢
          exact fun dd fv G' H' gr hd pf => h dd fv G' H' (s2.hst.grow gr) hd pf
        | bad => simp only [z] at h ⊢; exact h
      · rw [if_neg hl] at h; exact h.elim
end
end DL

/-! sorted(l) and sorted(l, key=f), f a def of the text. -/
namespace DL
open PySem PySem.Spec PyProof.Rows L2 LamX

theorem Un.off {fs : List Addr} {H H1 : Hp} {h h1 h2 : Heap} (u : Un fs [] H H1 h h1) (k : ∀ b o o', h.get? b = some o' → h1.get? b = some o → h2.get? b = some o) : Un fs [] H H1 h h2 where
  keep := fun b o q n hf hx => k b o o q (u.keep b o q n hf hx)
  slot := fun b o q n hf hx => by
    obtain ⟨sl, e⟩ := u.slot b o q n hf hx
    exact ⟨sl, k b _ o q e⟩
  free := u.free
  there := fun b o q hx => by
    obtain ⟨o', e⟩ := u.there b o q hx
    exact ⟨o', k b o' o q e⟩
  tups := u.tups
  frzs := u.frzs
  tbls := u.tbls
/-- what is new may be tracked -/
theorem Un.put {fs : List Addr} {H H1 : Hp} {h h1 : Heap} {a : Addr} {o : HO} (u : Un fs [] H H1 h h1) (hn : h.get? a = none) (hH : H a = none) : Un fs [] H (upd H1 a o) h h1 where
  keep := u.keep
  slot := u.slot
  free := fun b ob q n hx => by
    rw [upd_ne (fun z => by rw [z, hn] at q; cases q)]
    exact u.free b ob q n hx
  there := u.there
  tups := fun b xs q => by rw [upd_ne (ne_of_none q hH)]; exact u.tups b xs q
  frzs := fun b ob v q => by rw [upd_ne (ne_of_none q hH)]; exact u.frzs b ob v q
  tbls := fun b ps q => by rw [upd_ne (ne_of_none q hH)]; exact u.tbls b ps q
/-- an untracked object changes -/
theorem hok_off {P : Program} {w : World} {H : Hp} {h h' : Heap} {c : Addr} (x : HOk P w H h) (hc : H c = none) (k : ∀ b o, b ≠ c → h.get? b = some o → h'.get? b = some o) : HOk P w H h' := fun a o e =>
  (x a o e).stay (fun b u hb q => k b u (fun z => by
    rcases hb with hb | hb
    · rw [← hb, z, hc] at e; cases e
    · rw [z, hc] at hb; cases hb) q) (fun _ q => q) fun _ _ q => q

/-! ### a sort that computes -/
def insD {α : Type} (le : α → α → Bool) (x : α) : List α → List α
  | [] => [x]
  | y :: l => if le x y then x :: y :: l else y :: insD le x l
def isort {α : Type} (le : α → α → Bool) : List α → List α
  | [] => []
  | x :: l => insD le x (isort le l)
theorem insD_at {α : Type} {le : α → α → Bool} {x : α} : ∀ {l₁ l₂ : List α}, (∀ b ∈ l₁, le x b = false) → (∀ b ∈ l₂, le x b = true) → insD le x (l₁ ++ l₂) = l₁ ++ x :: l₂
  | [], [], _, _ => rfl
  | [], y :: l, _, h => by simp [insD, h y (by simp)]
  | y :: l₁, l₂, h1, h2 => by
    simp only [List.cons_append, insD]
    rw [h1 y (by simp)]
    simp [insD_at (l₁ := l₁) (l₂ := l₂) (fun b hb => h1 b (by simp [hb])) h2]
theorem isort_eq {α : Type} {le : α → α → Bool} (tr : ∀ a b c : α, le a b = true → le b c = true → le a c = true) (to : ∀ a b : α, (le a b || le b a) = true) : ∀ l : List α, l.mergeSort le = isort le l
  | [] => by simp [isort]
  | x :: l => by
    obtain ⟨l₁, l₂, e1, e2, e3⟩ := List.mergeSort_cons tr to x l
    have s := List.pairwise_mergeSort tr to (x :: l)
    rw [e1] at s
    have s2 : ∀ b ∈ l₂, le x b = true := (List.pairwise_cons.mp (List.pairwise_append.mp s).2.1).1
    rw [e1, isort, ← isort_eq tr to l, e2]
    exact (insD_at (fun b hb => by simpa using e3 b hb) s2).symm
theorem isort_dl {α : Type} (k : α → PyData) (l : List α) : isort (PySem.W.dataLe false k) l = l.mergeSort (PySem.W.dataLe false k) :=
  (isort_eq (PySem.W.sortLe_total _ false _).trans (fun a b => by rw [Bool.or_eq_true]; exact (PySem.W.sortLe_total _ false _).total a b) l).symm
/-! ### the keys -/
def keysD (F : List D → FR) : List D → Option (List D)
  | [] => some []
  | d :: l => match F [d], keysD F l with
    | .ok k, some ks => some (k :: ks)
    | _, _ => none
theorem keysD_at {F : List D → FR} : ∀ {l ks : List D}, keysD F l = some ks → l.length = ks.length ∧ ∀ (i : Nat) d, l[i]? = some d → ∃ k, ks[i]? = some k ∧ F [d] = .ok k
  | [], _, e => by cases e; exact ⟨rfl, fun i d h => by simp at h⟩
  | d :: l, _, e => by
    unfold keysD at e
    split at e
    · rename_i k ks e1 e2
      cases e
      obtain ⟨a, b⟩ := keysD_at e2
      refine ⟨by simp [a], fun i x h => ?_⟩
      cases i with
      | zero => simp at h; subst h; exact ⟨k, rfl, e1⟩
      | succ i => simpa using b i x (by simpa using h)
    · cases e
def alikeL : List PyData → Bool
  | [] => true
  | d :: l => PySem.W.alike d d && (l.all fun e => PySem.W.alike d e && PySem.W.alike e d) && alikeL l
theorem alikeL_all : ∀ {l : List PyData}, alikeL l = true → PySem.W.AllAlike l
  | [], _, d, hd, _, _ => by cases hd
  | x :: l, h, d, hd, d', hd' => by
    unfold alikeL at h
    simp only [Bool.and_eq_true, List.all_eq_true] at h
    obtain ⟨⟨h1, h2⟩, h3⟩ := h
    rcases List.mem_cons.mp hd with e | e <;> rcases List.mem_cons.mp hd' with e' | e'
    · rw [e, e']; exact h1
    · rw [e]; exact (h2 _ e').1
    · rw [e']; exact (h2 _ e).2
    · exact alikeL_all h3 d e d' e'
def isTupP : PyData → Bool
  | .tuple (_ :: _) => true
  | _ => false
def isPlainP : PyData → Bool
  | .none => false
  | .tuple _ => false
  | _ => true
def okSort (l : List PyData) : Bool := alikeL l && (l.all isTupP || l.all isPlainP) && decide (l.length ≤ 1000) && l.all fun d => decide (d.depth ≤ 50) && d.canLay0
theorem okSort_of {l : List PyData} (h : okSort l = true) : PySem.W.AllAlike l ∧ PySem.W.Sortable l ∧ l.length ≤ 1000 ∧ ∀ d ∈ l, d.depth ≤ 50 ∧ d.canLay0 = true := by
  unfold okSort at h
  simp only [Bool.and_eq_true, Bool.or_eq_true, List.all_eq_true, decide_eq_true_eq] at h
  obtain ⟨⟨⟨h1, h2⟩, h3⟩, h4⟩ := h
  refine ⟨alikeL_all h1, ?_, h3, h4⟩
  rcases h2 with h2 | h2
  · refine .inl fun d hd => ?_
    have := h2 d hd
    unfold isTupP at this
    split at this
    · exact ⟨_, _, rfl⟩
    · cases this
  · refine .inr fun d hd => ?_
    have := h2 d hd
    unfold isPlainP at this
    split at this
    · cases this
    · cases this
    · rename_i a b; exact ⟨fun z => a z, fun xs z => b xs z⟩
def sortD (ds ks : List D) : List D := (isort (PySem.W.dataLe false fun b : D × D => toP b.2) (ds.zip ks)).map (·.1)
theorem rpL_map {α : Type} {K : PySem.W.Frag} {G : Hp} {f : α → V} {g : α → D} : ∀ {l : List α}, (∀ b ∈ l, Rp K G (f b) (g b)) → RpL K G (l.map f) (l.map g)
  | [], _ => .nil
  | x :: l, h => .cons (h x (by simp)) (rpL_map fun b hb => h b (by simp [hb]))
abbrev B3 := (V × D) × D
def b3 : List V → List D → List D → List B3
  | v :: vs, d :: ds, k :: ks => ((v, d), k) :: b3 vs ds ks
  | _, _, _ => []
theorem b3_zip : ∀ {vs : List V} {ds ks : List D}, vs.length = ds.length → (b3 vs ds ks).map (fun b => (b.1.2, b.2)) = ds.zip ks
  | [], [], _, _ => by simp [b3]
  | v :: vs, d :: ds, [], _ => by simp [b3]
  | v :: vs, d :: ds, k :: ks, h => by simp [b3, b3_zip (vs := vs) (ds := ds) (ks := ks) (by simpa using h)]
  | [], d :: ds, _, h => by simp at h
  | v :: vs, [], _, h => by simp at h
theorem b3_keys : ∀ {vs : List V} {ds ks : List D}, vs.length = ks.length → ds.length = ks.length → (b3 vs ds ks).map (fun b => b.2) = ks
  | [], _, [], _, _ => by simp [b3]
  | v :: vs, d :: ds, k :: ks, h, h' => by simp [b3, b3_keys (vs := vs) (ds := ds) (ks := ks) (by simpa using h) (by simpa using h')]
  | [], _, k :: ks, h, _ => by simp at h
  | v :: vs, _, [], h, _ => by simp at h
  | v :: vs, [], k :: ks, _, h => by simp at h
theorem b3_rp {K : PySem.W.Frag} {G : Hp} : ∀ {vs : List V} {ds ks : List D}, RpL K G vs ds → ∀ b ∈ b3 vs ds ks, Rp K G b.1.1 b.1.2
  | _, _, ks, .nil => fun b hb => by simp [b3] at hb
  | _, _, [], .cons _ _ => fun b hb => by simp [b3] at hb
  | _, _, k :: ks, .cons p q => fun b hb => by
    simp only [b3, List.mem_cons] at hb
    rcases hb with rfl | hb
    · exact p
    · exact b3_rp q b hb
theorem b3_each : ∀ {vs : List V} {us : List Value} {ds ks : List D}, Vals vs us → vs.length = ds.length → ds.length = ks.length → PySem.W.EachIs (fun u (b : B3) => RelV b.1.1 u) us (b3 vs ds ks)
  | _, _, [], [], .nil, _, _ => .nil
  | _, _, d :: ds, k :: ks, .cons p q, h, h' => .cons p (b3_each q (by simpa using h) (by simpa using h'))
  | _, _, d :: ds, [], _, _, h => by simp at h
  | _, _, [], k :: ks, _, _, h => by simp at h
  | _, _, d :: ds, _, .nil, h, _ => by simp at h
  | _, _, [], _, .cons _ _, h, _ => by simp at h
theorem each_vals : ∀ {out : List Value} {l : List B3}, PySem.W.EachIs (fun u (b : B3) => RelV b.1.1 u) out l → Vals (l.map fun b => b.1.1) out
  | _, _, .nil => .nil
  | _, _, .cons p q => .cons p (each_vals q)
theorem sortD_b3 {vs : List V} {ds ks : List D} (h : vs.length = ds.length) : ((b3 vs ds ks).mergeSort (PySem.W.dataLe false fun b : B3 => toP b.2)).map (fun b => b.1.2) = sortD ds ks := by
  unfold sortD
  rw [isort_dl, ← b3_zip h, ← List.map_mergeSort (r := PySem.W.dataLe false fun b : B3 => toP b.2) (f := fun b : B3 => (b.1.2, b.2)) (fun a _ b _ => rfl), List.map_map]
  rfl
theorem toPs_map : ∀ l : List D, toPs l = l.map toP
  | [] => by simp [toPs]
  | d :: l => by simp [toPs, toPs_map l]
theorem canAll_of : ∀ {l : List D}, (∀ d ∈ l.map toP, d.canLay0 = true) → PyData.canLayAll0 (toPs l) = true
  | [], _ => by simp [toPs, PyData.canLayAll0]
  | d :: l, h => by
    rw [toPs]
    unfold PyData.canLayAll0
    rw [h (toP d) (by simp), canAll_of (l := l) fun e he => h e (by simp at he ⊢; exact .inr he)]
    rfl
theorem reads_each {h : Heap} : ∀ {us : List Value} {ds : List PyData} {as : List Addr}, ReadsAll h us ds as → PySem.W.EachIs (fun v d => ∃ as, Reads h v d as) us ds := by
  intro us ds as r
  exact PySem.W.readsAll_each (h := h) (β := PyData) (fun d => d) (vs := us) (bs := ds) (as := as) (by rw [List.map_id']; exact r)
section
variable {X : Cx} {pins : List (Addr × Obj)} {σ : L2.St} {H G : Hp} {s : Shared} {cls : Str → Addr} {F : List D → FR}
theorem far_stack (I : Inv X pins σ H s) {f : Addr} (hf : s.heap.objs.size ≤ f) : f ∉ frs X.stack := fun z => by
  rcases List.mem_cons.mp (I.stkSub _ z) with e | e
  · have lt := I.lt
    rw [← e] at lt
    exact absurd (Nat.lt_of_lt_of_le lt hf) (Nat.lt_irrefl _)
  · exact I.nofs hf e
/-- between the calls: what has been since s -/
structure Mid (X : Cx) (H G : Hp) (s : Shared) (a kS e1 : Nat) (kds : List D) (s' : Shared) : Prop where
  ex : ∃ (H' G' : Hp) (ks : List V) (kA : Array Value) (e : Nat), s'.os = s.os ∧ AllBare s'.gens ∧ Un (frs X.stack) [] H H' s.heap s'.heap ∧ HOk X.prog X.w H' s'.heap ∧ Grow G H G' H' ∧ s'.heap.get? kS = some (seqObj "list" kA e) ∧
    s'.heap.get? a = some (seqObj "list" #[] e1) ∧ H' kS = none ∧ H' a = none ∧ Vals ks kA.toList ∧ RpL X.K G' ks kds
theorem sortK_run {l f : Addr} {fd : FuncData} {ps : List Str} {k j : Nat} {xs : List V} {ds kds : List D} {Q : VK} (I : Inv X pins σ H s) (Fn : FnOk X.prog X.w X.K X.mg X.base (L2.CX X.prog X.w) k f fd ps (spF X.K cls F)) (hr : Room j X.A) (hk : k + 2 ≤ j) (hb : Binds X.K fd ps [])
    (sub : Same G H) (gnt : ∀ b ps, G b ≠ some (.tbl ps)) (hl : SqL X.K H l xs) (hx : RpL X.K G xs ds) (hks : keysD F ds = some kds) (hok : okSort (kds.map toP) = true)
    (q : ∀ p vs G' H', Grow G H G' H' → H p = none → H' p = none → RpL X.K G' vs (sortD ds kds) → Q (.ref p) (upd H' p (.lst vs))) :
    wpAny (model X.prog X.w) X.A (call (.builtin "sorted") [.ref l] [(Str.ofString "key", .ref f)]) (EP X pins σ Q) X.xe s := by
  obtain ⟨us, rv, hl1, hz⟩ := I.list hl
  obtain ⟨hlen, hkey⟩ := keysD_at hks
  obtain ⟨hal, hsk, hl1000, hdep⟩ := okSort_of hok
  have lus : us.length = kds.length := by rw [← rv.length, hx.length, hlen]
  have hZ : us.length ≤ sizeLine := by rw [← rv.length]; exact hz
  refine PySem.W.sorted_of_sort hl1.isList hZ (ksk_s1 _ _) (fun _ => ksk_l1 _ _) fun E' => ?_
  rw [ksk_t1]
  have ho : (PySem.W.copyHeap s.heap us).get? (s.heap.objs.size + 1) = some (seqObj "list" us.toArray 0) := PySem.W.copyHeap_at _ _
  have ha : s.heap.objs.size + 1 < (PySem.W.copyHeap s.heap us).objs.size := Heap.lt_size ho
  obtain ⟨e1, ho1⟩ : ∃ e1, ((PySem.W.copyHeap s.heap us).update (s.heap.objs.size + 1) (Obj.mapSeq fun _ => (#[] : Array Value))).get? (s.heap.objs.size + 1) = some (seqObj "list" #[] e1) := ⟨_, get?_update_seq ho fun _ => #[]⟩
  have hkS : (((PySem.W.copyHeap s.heap us).update (s.heap.objs.size + 1) (Obj.mapSeq fun _ => (#[] : Array Value))).push (seqObj "tuple" us.toArray 0)).objs.size = (PySem.W.copyHeap s.heap us).objs.size + 1 := by rw [size_push', Heap.size_update]
  unfold ksk_tree
  refine wpAny_bind (listItems_at ho rfl ?_)
  refine wpAny_bind (listUpdate_at ho rfl ?_ (by rw [List.size_toArray]; exact hZ) (Nat.zero_le _))
  refine wpAny_bind (seqEpoch_at ho1 rfl ?_)
  refine wpAny_bind (wpAny_newTuple ?_ (by show us.length ≤ _; exact hZ))
  refine wpAny_bind (wpAny_newList ?_ (Nat.zero_le _))
  refine wpAny_holding ?_
  generalize ekS : (((PySem.W.copyHeap s.heap us).update (s.heap.objs.size + 1) (Obj.mapSeq fun _ => (#[] : Array Value))).push (seqObj "tuple" us.toArray 0)).objs.size = kS at hkS
  have big : s.heap.objs.size ≤ kS := by rw [hkS]; exact Nat.le_of_lt (Nat.lt_of_lt_of_le (Nat.lt_of_lt_of_le (Nat.lt_succ_self _) (Nat.le_of_lt ha)) (Nat.le_succ _))
  have kSa : kS ≠ s.heap.objs.size + 1 := by rw [hkS]; exact Nat.ne_of_gt (Nat.lt_succ_of_lt ha)
  have old : ∀ b o, s.heap.get? b = some o → (((PySem.W.copyHeap s.heap us).update (s.heap.objs.size + 1) (Obj.mapSeq fun _ => (#[] : Array Value))).push (seqObj "tuple" us.toArray 0) |>.push (seqObj "list" #[] 0)).get? b = some o := fun b o e =>
    Heap.get?_push_of_some _ (Heap.get?_push_of_some _ ((Heap.get?_update_ne _ _ _ _ (Nat.ne_of_lt (Nat.lt_succ_of_lt (Heap.lt_size e)))).trans (PySem.W.copyHeap_old e)))
  have start : Mid X H G s (s.heap.objs.size + 1) kS e1 [] { s with heap := ((PySem.W.copyHeap s.heap us).update (s.heap.objs.size + 1) (Obj.mapSeq fun _ => (#[] : Array Value))).push (seqObj "tuple" us.toArray 0) |>.push (seqObj "list" #[] 0) } :=
    ⟨H, G, [], #[], 0, rfl, I.bare, Un.kept old, I.hok.kept old, ⟨Same.refl _, Same.refl _, sub, gnt, fun _ _ z => z⟩, (by rw [← ekS]; exact Heap.get?_push_size _ rfl), Heap.get?_push_of_some _ (Heap.get?_push_of_some _ ho1), I.hok.fresh big, I.hok.fresh (Nat.le_succ _), .nil, .nil⟩
  unfold ksk_rest
  refine wpAny_bind (wpAny_rule ?_)
  first
    | rw [List.forIn_toArray]
    | (rw [← Array.forIn_toList]; simp only [List.toList_toArray])
    | rw [← Array.forIn_toList]
  refine wpAny_bind (ksk_fold (fun i s' => Mid X H G s (s.heap.objs.size + 1) kS e1 (kds.take i) s') us 0 _ (by rw [List.take_zero]; exact start) ?step ?done)
  case step =>
    intro i x s' hxi hM
    rw [Nat.zero_add] at hM ⊢
    obtain ⟨H', G', ks, kA, e, os, bare, un, hok', gr, nk, na, fk, fa, rk, pk⟩ := hM.ex
    have li : i < us.length := lt_of_get hxi
    have J : Inv X pins σ H' s' := I.call' (ch := []) os un hok' bare (fun b z => absurd z (by simp))
    obtain ⟨xv, exv, rxv⟩ : ∃ xv, xs[i]? = some xv ∧ RelV xv x := by
      rcases paired_at rv i with ⟨_, z⟩ | ⟨p, r, e1, e2, e3⟩
      · rw [z] at hxi; cases hxi
      · rw [hxi] at e2; cases e2; exact ⟨p, e1, e3⟩
    obtain ⟨d, ed, pd⟩ : ∃ d, ds[i]? = some d ∧ Rp X.K G xv d := by
      rcases rpL_at hx i with ⟨z, _⟩ | ⟨p, r, e1, e2, e3⟩
      · rw [z] at exv; cases exv
      · rw [exv] at e1; cases e1; exact ⟨r, e2, e3⟩
    obtain ⟨kd, ekd, eF⟩ := hkey i d ed
    have hsp : spF X.K cls F [xv] H' (fun v H2 => ∃ G2, Grow G' H' G2 H2 ∧ Rp X.K G2 v kd) (fun _ _ _ => False) := by
      refine ⟨G', [d], gr.sub, gr.gnt, .cons (pd.up gr.g) .nil, ?_⟩
      rw [eF]
      exact fun v G2 H2 g2 p2 => ⟨G2, g2, p2⟩
    have room : Room k X.A.in1.in1 := (((hr.mono hk).in1 : Room (k + 1) X.A.in1).in1)
    have lps : [xv].length = ps.length := Fn.len _ _ _ _ hsp
    have rc := Fn.run X.A.in1.in1 X.stack s' H' ⟨[x], []⟩ [x] [xv] _ _ room (J.env0.in1.in1) (by have b0 := hb s' [x] J.kIn (by rw [List.append_nil]; exact lps); rw [List.append_nil] at b0; exact b0) (.cons rxv .nil) hsp
    have fkS : kS ∉ frs X.stack := far_stack I big
    have faS : s.heap.objs.size + 1 ∉ frs X.stack := far_stack I (Nat.le_succ _)
    refine wpAny_bind (wpAny_attempt (wpAny_mono (wpAny_call (Q := fun v s2 => CE X.stack X.prog X.w H' s' (fun v H2 => ∃ G2, Grow G' H' G2 H2 ∧ Rp X.K G2 v kd) v s2) (E := fun _ _ => False) (codeAny_mono rc fun r s2 hq => ?_)) (fun v s2 hv => ?_) fun _ _ z => z.elim))
    · cases r with
      | error e =>
        obtain ⟨_, _, _, _, _, _, _, _, _, _, _, _, z⟩ := hq
        exact z
      | ok fl =>
        cases fl with
        | ret u => exact hq
        | next => exact False.elim hq
        | brk => exact False.elim hq
        | cont => exact False.elim hq
    · obtain ⟨kv, H2, os2, bare2, un2, hok2, rkv, G2, gr2, pkv⟩ := hv
      have nk2 : s2.heap.get? kS = some (seqObj "list" kA e) := un2.keep kS _ nk fk fkS (by simp)
      have na2 : s2.heap.get? (s.heap.objs.size + 1) = some (seqObj "list" #[] e1) := un2.keep _ _ na fa faS (by simp)
      have fk2 : H2 kS = none := un2.free kS _ nk fk (by simp)
      have fa2 : H2 (s.heap.objs.size + 1) = none := un2.free _ _ na fa (by simp)
      have lk : kA.size ≤ us.length := by
        have h1 : ks.length = kA.toList.length := rk.length
        have h3 : kA.toList.length = kA.size := Array.length_toList
        have h2 := pk.length
        rw [List.length_take] at h2
        rw [← h3, ← h1, h2]
        exact Nat.le_trans (Nat.min_le_left _ _) (Nat.le_of_lt li)
      have s1 := Heap.SameBut.update s2.heap kS (Obj.mapSeq (·.push v))
      obtain ⟨c2, hc2⟩ : ∃ c2, (s2.heap.update kS (Obj.mapSeq (·.push v))).get? kS = some (seqObj "list" (kA.push v) c2) := ⟨_, get?_update_seq nk2 (·.push v)⟩
      refine wpAny_bind (listUpdate_at nk2 rfl ?_ (Nat.le_trans lk hZ) (Nat.le_trans (Nat.le_of_eq (Array.size_push ..)) (Nat.succ_le_succ (Nat.le_trans lk hZ))))
      refine wpAny_pure ⟨rfl, H2, G2, ks ++ [kv], kA.push v, c2, os2.trans os, bare2, Un.off (un.trans un2) (fun b o o' h1 h2 => (s1.2 b (fun z => ?_)).trans h2), hok_off hok2 fk2 (fun b o hb h2 => (s1.2 b hb).trans h2), gr.trans gr2, hc2, (s1.2 _ (Ne.symm kSa)).trans na2, fk2, fa2, ?_, ?_⟩
      · rw [z] at h1
        exact absurd (Nat.lt_of_lt_of_le (Heap.lt_size h1) big) (Nat.lt_irrefl _)
      · rw [Array.toList_push]
        exact rk.append (.cons rkv .nil)
      · rw [List.take_add_one, ekd]
        exact (pk.up gr2.g).append (.cons pkv .nil)
  case done =>
    intro s' hM
    rw [Nat.zero_add, List.take_of_length_le (Nat.le_of_eq lus.symm)] at hM
    obtain ⟨H', G', ks, kA, e, os, bare, un, hok', gr, nk, na, fk, fa, rk, pk⟩ := hM.ex
    have J : Inv X pins σ H' s' := I.call' (ch := []) os un hok' bare (fun b z => absurd z (by simp))
    have hcan : PyData.canLayAll0 (toPs kds) = true := canAll_of fun d hd => (hdep d hd).2
    obtain ⟨as, rd⟩ := Dp.readsAll J _ _ _ (dps_of (gr.sub) kds ks hcan pk) rk
    rw [toPs_map] at rd
    have each := reads_each rd
    have hsz : kA.size = us.length := by
      have h1 : ks.length = kA.toList.length := rk.length
      have h3 : kA.toList.length = kA.size := Array.length_toList
      rw [← h3, ← h1, pk.length, lus]
    obtain ⟨hh, hh1, hh2⟩ := restrict s'.heap fun b => decide (b ≠ kS)
    have hu : ∀ d, d ∈ kds.map toP → X.A.in1.in1.units + d.depth < cLine := fun d hd => by
      have := (hdep d hd).1
      have := hr.un
      show X.A.units + 1 + 1 + d.depth < cLine
      omega
    refine wpAny_bind (listItems_at nk rfl ?_)
    refine PySem.W.keyH_end (κ := PySem.W.dataKind s'.heap (kds.map toP)) (h₁ := hh) (fun b o hb h => ?_) (hh2 kS (by simp)) nk na kSa (PySem.W.SortsAt.data each hal hsk hu) hsz hZ fun h3 tk3 c k3 n3 => ⟨rfl, ?_⟩
    · by_cases z : b = kS
      · rw [z, hh2 kS (by simp)] at h; cases h
      · rw [← hh1 b (by simpa using z)]; exact h
    · have ko : PySem.W.KeyedOut false ((b3 xs ds kds).map fun b => toP b.2) us (PySem.W.sortVals (PySem.W.dataKind s'.heap (kds.map toP)) false kA.toList us) := by
        have ek : (b3 xs ds kds).map (fun b => toP b.2) = kds.map toP := by
          have := congrArg (List.map toP) (b3_keys (vs := xs) (ds := ds) (ks := kds) (by rw [hx.length, hlen]) hlen)
          rwa [List.map_map] at this
        rw [ek]
        exact ⟨_, _, hal, rfl, each⟩
      have out := PySem.W.keyedOut_each (R := fun u (b : B3) => RelV b.1.1 u) (fun b : B3 => toP b.2) ko (b3_each rv hx.length hlen)
      have vo := each_vals out
      generalize eo : PySem.W.sortVals (PySem.W.dataKind s'.heap (kds.map toP)) false kA.toList us = ov at n3 vo
      have po : RpL X.K G' (((b3 xs ds kds).mergeSort (PySem.W.dataLe false fun b : B3 => toP b.2)).map fun b => b.1.1) (sortD ds kds) := by
        rw [← sortD_b3 (vs := xs) hx.length]
        exact rpL_map fun b hb => (b3_rp hx b ((List.mergeSort_perm _ _).mem_iff.mp hb)).up gr.g
      have lo : (((b3 xs ds kds).mergeSort (PySem.W.dataLe false fun b : B3 => toP b.2)).map fun b => b.1.1).length ≤ sizeLine := by
        rw [po.length]
        unfold sortD
        rw [isort_dl, List.length_map, List.length_mergeSort, List.length_zip]
        rw [List.length_map] at hl1000
        rw [sizeLine_eq]
        omega
      generalize ev : (((b3 xs ds kds).mergeSort (PySem.W.dataLe false fun b : B3 => toP b.2)).map fun b => b.1.1) = vv at vo po lo
      have keepB : ∀ b o, b ≠ s.heap.objs.size + 1 → b ≠ kS → s'.heap.get? b = some o → h3.get? b = some o := fun b o n1 n2 h => k3 b o n1 (by rw [hh1 b (by simpa using n2)]; exact h)
      have un3 : Un (frs X.stack) [] H (upd H' (s.heap.objs.size + 1) (.lst vv)) s.heap h3 := Un.put (Un.off un fun b o o' h1 h2 => keepB b o (fun z => ?_) (fun z => ?_) h2) (Heap.get?_none_of_le (Nat.le_succ _)) (I.hok.fresh (Nat.le_succ _))
      · have hok3 : HOk X.prog X.w (upd H' (s.heap.objs.size + 1) (.lst vv)) h3 := fun b o h => by
          by_cases z : b = s.heap.objs.size + 1
          · subst z
            rw [upd_same] at h
            cases h
            exact ⟨lo, ov, c, vo, n3⟩
          · rw [upd_ne z] at h
            refine (hok' b o h).stay (fun b2 o2 hb2 h2 => keepB b2 o2 (fun y => ?_) (fun y => ?_) h2) (fun b2 h2 => ?_) fun b2 xs2 h2 => ?_
            · rcases hb2 with y2 | y2
              · exact z (y2.symm.trans y)
              · rw [y, fa] at y2; cases y2
            · rcases hb2 with y2 | y2
              · rw [← y2, y, fk] at h; cases h
              · rw [y, fk] at y2; cases y2
            · rw [upd_ne (ne_of_none h2 fa)]; exact h2
            · rw [upd_ne (ne_of_none h2 fa)]; exact h2
        exact ⟨.ref _, _, I.call' (s' := { s' with heap := h3, toks := tk3 }) (ch := []) os un3 hok3 bare (fun b z => absurd z (by simp)), rfl, q _ _ G' H' gr (I.hok.fresh (Nat.le_succ _)) fa po⟩
      · rw [z] at h1
        exact absurd (Nat.lt_of_lt_of_le (Heap.lt_size h1) (Nat.le_succ _)) (Nat.lt_irrefl _)
      · rw [z] at h1
        exact absurd (Nat.lt_of_lt_of_le (Heap.lt_size h1) big) (Nat.lt_irrefl _)
end
end DL

/-! sorted over data. -/
namespace DL
open PySem PySem.Spec PyProof.Rows L2 LamX

def mSortK (F : List D → FR) (m : ME) : ME := fun r => match m r with
  | .ok (.lst ds) r1 => (match keysD F ds with
    | some ks => if okSort (ks.map toP) then .ok (.lst (sortD ds ks)) r1 else .bad
    | none => .bad)
  | .exc c fs => .exc c fs
  | _ => .bad
def sortD0 (ds : List D) : List D := isort (PySem.W.dataLe false toP) ds
def gSort (d : D) : Option D := match d with
  | .lst ds => if okSort (ds.map toP) then some (.lst (sortD0 ds)) else none
  | _ => none
def rSortD (K : PySem.W.Frag) : List V → Hp → VK → Prop := fun vs H Q => ∃ (l : Addr) (xs : List V) (G : Hp) (ds : List D), vs = [.ref l] ∧ SqL K H l xs ∧ Same G H ∧ RpL K G xs ds ∧ okSort (ds.map toP) = true ∧
  ∀ p ys, H p = none → RpL K G ys (sortD0 ds) → Q (.ref p) (upd H p (.lst ys))
theorem zip_each : ∀ {vs : List V} {us : List Value} {ds : List D}, Vals vs us → vs.length = ds.length → PySem.W.EachIs (fun u (b : V × D) => RelV b.1 u) us (vs.zip ds)
  | _, _, [], .nil, _ => .nil
  | _, _, d :: ds, .cons p q, h => .cons p (zip_each q (by simpa using h))
  | _, _, d :: ds, .nil, h => by simp at h
  | _, _, [], .cons _ _, h => by simp at h
theorem each_fst : ∀ {out : List Value} {l : List (V × D)}, PySem.W.EachIs (fun u (b : V × D) => RelV b.1 u) out l → Vals (l.map fun b => b.1) out
  | _, _, .nil => .nil
  | _, _, .cons p q => .cons p (each_fst q)
theorem zip_rp {K : PySem.W.Frag} {G : Hp} : ∀ {vs : List V} {ds : List D}, RpL K G vs ds → ∀ b ∈ vs.zip ds, Rp K G b.1 b.2
  | _, _, .nil => fun b hb => by simp at hb
  | _, _, .cons p q => fun b hb => by
    simp only [List.zip_cons_cons, List.mem_cons] at hb
    rcases hb with rfl | hb
    · exact p
    · exact zip_rp q b hb
theorem zip_snd : ∀ {vs : List V} {ds : List D}, vs.length = ds.length → (vs.zip ds).map (fun b => b.2) = ds
  | [], [], _ => rfl
  | v :: vs, d :: ds, h => by simp [zip_snd (vs := vs) (ds := ds) (by simpa using h)]
  | [], d :: ds, h => by simp at h
  | v :: vs, [], h => by simp at h
section
variable {X : Cx} {C : Fc} {E : XK}
theorem cr_sortD (hu : X.A.units + 65 < cLine) : CallR X (.builtin "sorted") (rSortD X.K) := by
  intro pins s σ H vs us Q I r h
  obtain ⟨l, xs, G, ds, rfl, hl, sub, hx, hok, q⟩ := h
  obtain rfl := Vals.ref1 r
  obtain ⟨its, rv, hl1, hz⟩ := I.list hl
  obtain ⟨hal, hsk, h1000, hdep⟩ := okSort_of hok
  have hcan : PyData.canLayAll0 (toPs ds) = true := canAll_of fun d hd => (hdep d hd).2
  obtain ⟨as, rd⟩ := Dp.readsAll I _ _ _ (dps_of sub ds xs hcan hx) rv
  rw [toPs_map] at rd
  have es : (xs.zip ds).map (fun b => toP b.2) = ds.map toP := by
    have := congrArg (List.map toP) (zip_snd (vs := xs) hx.length)
    rwa [List.map_map] at this
  have er := PySem.W.readsAll_each (fun b : V × D => toP b.2) (vs := its) (bs := xs.zip ds) (as := as) (by rw [es]; exact rd)
  have lb : (xs.zip ds).length = ds.length := by rw [List.length_zip, hx.length, Nat.min_self]
  rw [List.length_map] at h1000
  refine PySem.W.sorted_data (R := fun u (b : V × D) => RelV b.1 u) (enc := fun b : V × D => toP b.2) hl1.isList (zip_each rv hx.length) er (by rw [es]; exact hal) (by rw [es]; exact hsk) (by rw [lb, sizeLine_eq]; omega) (fun b hb => ?_) fun out lo eo => ?_
  · have hm : toP b.2 ∈ ds.map toP := by rw [← es]; exact List.mem_map.mpr ⟨b, hb, rfl⟩
    have := (hdep _ hm).1
    omega
  · have vo := each_fst eo
    have po : RpL X.K G (((xs.zip ds).mergeSort (PySem.W.dataLe false fun b : V × D => toP b.2)).map fun b => b.1) (sortD0 ds) := by
      have e2 : sortD0 ds = ((xs.zip ds).mergeSort (PySem.W.dataLe false fun b : V × D => toP b.2)).map (fun b => b.2) := by
        unfold sortD0
        rw [isort_dl, List.map_mergeSort (r := PySem.W.dataLe false fun b : V × D => toP b.2) (s := PySem.W.dataLe false toP) (f := fun b : V × D => b.2) (fun a _ b _ => rfl), zip_snd hx.length]
      rw [e2]
      exact rpL_map fun b hb => zip_rp hx b ((List.mergeSort_perm _ _).mem_iff.mp hb)
    obtain ⟨ep, he⟩ := PyProof.Rows.sortedAll_at s.heap its out.toArray
    have lz : (((xs.zip ds).mergeSort (PySem.W.dataLe false fun b : V × D => toP b.2)).map fun b => b.1).length ≤ sizeLine := by
      rw [List.length_map, List.length_mergeSort, lb, sizeLine_eq]; omega
    exact ⟨.ref _, _, I.laid (t' := s.toks) (o := .lst (((xs.zip ds).mergeSort (PySem.W.dataLe false fun b : V × D => toP b.2)).map fun b => b.1)) (fun _ _ => PyProof.Rows.sortedAll_old) (Nat.le_succ _) ⟨lz, out, ep, vo, he⟩, rfl, q _ _ (I.hok.fresh (Nat.le_succ _)) po⟩
theorem d_sort : CallD C (rSortD C.K) (b1 gSort) := callD1 fun G H v d1 d Q s h1 e k => by
  unfold gSort at e
  split at e
  · rename_i ds
    split at e
    · rename_i ok
      cases e
      cases h1 with
      | @lst a xs _ g p =>
        refine ⟨a, xs, G, ds, rfl, .inl (.inl (s.sub _ _ g)), s.sub, p, ok, fun q ys hq py => ?_⟩
        have gr := Grow.lay (o := .lst ys) s.sub s.gnt hq (fun ps z => by cases z)
        exact k _ _ _ gr (.lst upd_same (py.up gr.g))
    · cases e
  · cases e
/-- sorted(e, key=f) -/
theorem e_sortK {f : Str} {F : List D → FR} {e : Expr} {m : ME} {k j : Nat} {p p2 p3 pos : Pos} (d : Df X.prog X.w X.K X.mg X.base k f (spF C.K C.cls F)) (hr : Room j X.A) (he : PE X e (tE C E m)) (hm : X.mg "sorted" = none)
    (hK : C.K = X.K := by rfl) (hk : k + 2 ≤ j := by decide) (hgs : Gl X "sorted" := by rfl) (hg : Gl X f := by rfl) (hdb : (f == ("__debug__" : Str)) = false := by decide)
    (ha : starEach [e] X.env = (false, eval e X.env) :: starEach [] X.env := by rfl)
    (he1 : backTo pos (starEach [e] X.env) = (false, eval e X.env) :: backTo pos (starEach [] X.env) := by rfl) (hpl : (backTo pos (starEach [e] X.env)).any (·.1) = false := by rfl)
    (hall : (backToKw pos (keywordEach [⟨some "key", .Name f p2, p3⟩] X.env)).all (·.1.isSome) = true := by rfl) (hnone : (backToKw pos (keywordEach [⟨some "key", .Name f p2, p3⟩] X.env)).any (·.1.isNone) = false := by rfl) (hks : (backToKw pos (keywordEach [⟨some "key", .Name f p2, p3⟩] X.env)).filterMap (·.1) = [Str.ofString "key"] := by rfl) :
    PE X (.Call (.Name "sorted" p) [e] [⟨some "key", .Name f p2, p3⟩] pos) (tE C E (mSortK F m)) := by
  obtain ⟨fa, fd, ps, o, mf, kp, b⟩ := d.ex
  rw [hK] at o
  have crk : CallRK X (.builtin "sorted") [Str.ofString "key"] (fun vs zs H Q => zs = [.ref fa] ∧ ∃ (l : Addr) (xs : List V) (G : Hp) (ds kds : List D), vs = [.ref l] ∧ SqL X.K H l xs ∧ Same G H ∧ (∀ b ps, G b ≠ some (.tbl ps)) ∧ RpL X.K G xs ds ∧ keysD F ds = some kds ∧ okSort (kds.map toP) = true ∧
      ∀ p vs G' H', Grow G H G' H' → H p = none → H' p = none → RpL X.K G' vs (sortD ds kds) → Q (.ref p) (upd H' p (.lst vs))) := by
    intro pins s σ H vs zs us ws Q I r rz h
    obtain ⟨rfl, l, xs, G, ds, kds, rfl, hl, sub, gnt, hx, hks, hok, q⟩ := h
    obtain rfl := Vals.ref1 r
    obtain rfl := Vals.ref1 rz
    exact sortK_run I o hr hk b sub gnt hl hx hks hok q
  have pf : PE X (.Name f p2) (tC (.ref fa)) := ⟨fun pins s σ H Q I h => ld_glob I hg mf ⟨.ref fa, H, I, rfl, h⟩ hdb⟩
  refine PE.imp (pe_callBK crk hgs hm (by decide +kernel) (pa_cons he pa_nil ha) (pk_cons pf pk_nil) (by decide) (by decide) he1 hpl hall hnone hks) fun σ H Q h => ?_
  obtain ⟨r, ad, G, s, k⟩ := h
  refine ⟨r, ad, G, s, ?_⟩
  unfold mSortK at k
  cases q : m r with
  | bad => rw [q] at k; exact k.elim
  | exc c fs => rw [q] at k; exact k
  | ok dd r1 =>
    rw [q] at k
    intro v G1 H1 s1 k1 p1
    cases dd with
    | lst ds =>
      simp only at k
      cases qk : keysD F ds with
      | none => rw [qk] at k; exact k.elim
      | some ks =>
        rw [qk] at k
        simp only at k
        by_cases hs : okSort (ks.map toP) = true
        · rw [if_pos hs] at k
          cases p1 with
          | @lst a xs _ g px =>
            refine ⟨rfl, a, xs, G1, ds, ks, rfl, .inl (.inl (s1.hst.sub _ _ g)), s1.hst.sub, s1.hst.gnt, by rw [← hK]; exact px, qk, hs, fun p vs G' H' gr h0 h1 py => ?_⟩
            have s2 := s1.grow gr
            have lay := Grow.lay (o := .lst vs) s2.hst.sub s2.hst.gnt h1 (fun ps z => by cases z)
            exact k _ _ _ (s2.grow lay) (k1.trans ((Kp.grow gr).trans (Kp.grow lay))) (.lst upd_same (by rw [hK]; exact py.up lay.g))
        · rw [if_neg hs] at k; exact k.elim
    | non => exact k.elim
    | bl _ => exact k.elim
    | int _ => exact k.elim
    | str _ => exact k.elim
    | tup _ => exact k.elim
    | dct _ => exact k.elim
    | scr _ => exact k.elim
    | cst _ => exact k.elim
end
end DL

/-! == and != where empty dicts stand inside. -/
namespace DL
open PySem PySem.Spec PyProof.Rows L2 LamX

def allX (f : D → D → Option Bool) : List D → List D → Bool
  | [], [] => true
  | x :: a, y :: b => (f x y == some true) && allX f a b
  | _, _ => false
theorem allX_len {f : D → D → Option Bool} : ∀ {a b : List D}, allX f a b = true → a.length = b.length
  | [], [], _ => rfl
  | x :: a, y :: b, h => by
    simp only [allX, Bool.and_eq_true] at h
    simp [allX_len h.2]
  | [], y :: b, h => by simp [allX] at h
  | x :: a, [], h => by simp [allX] at h
theorem allX_at {f : D → D → Option Bool} : ∀ {a b : List D}, allX f a b = true → ∀ (i : Nat) x y, a[i]? = some x → b[i]? = some y → f x y = some true
  | [], [], _, i, x, y, e, _ => by simp at e
  | x :: a, y :: b, h, i, u, v, e1, e2 => by
    simp only [allX, Bool.and_eq_true, beq_iff_eq] at h
    cases i with
    | zero => simp at e1 e2; subst e1; subst e2; exact h.1
    | succ i => exact allX_at h.2 i u v (by simpa using e1) (by simpa using e2)
  | [], y :: b, h, _, _, _, _, _ => by simp [allX] at h
  | x :: a, [], h, _, _, _, _, _ => by simp [allX] at h
def eqX : Nat → D → D → Option Bool
  | 0, _, _ => none
  | n + 1, d, e => if okEq d && okEq e then some (eqB d e) else match d, e with
    | .tup a, .tup b => if allX (eqX n) a b then some true else none
    | .lst a, .lst b => if allX (eqX n) a b then some true else none
    | .dct [], .dct [] => some true
    | _, _ => none
section
variable {X : Cx} {pins : List (Addr × Obj)} {σ : L2.St} {H G : Hp} {s : Shared}
theorem dict0 (I : Inv X pins σ H s) (sub : Same G H) {v : V} {u : Value} (h : Rp X.K G v (.dct [])) (ru : RelV v u) : ∃ a, u = .ref a ∧ (a == sysModules) = false ∧ ∀ (P : Program) (w : World), s.heap.DictOf (mixKind P w) a [] := by
  have of : ∀ {a : Addr} {o : Obj} {es : Array DictEntry} {ep : Nat}, s.heap.get? a = some o → o.ExactDict → o.data = .dict es ep → es.toList = [] → ∀ (P : Program) (w : World), s.heap.DictOf (mixKind P w) a [] := fun {a o es ep} e1 e2 e3 e4 P w => by
    have e5 : es = #[] := by rw [← Array.toArray_toList (xs := es), e4]
    subst e5
    exact ⟨o, #[], ep, e1, e2, e3, fun e he => by simp at he, .nil, by simp⟩
  cases h with
  | @dK a o kvs _ g p =>
    cases p
    obtain rfl : u = Value.ref a := ru
    obtain ⟨_, _, nm, vs, kv, o', es, ep, e1, e2, e3, _, e5, _⟩ := (show ObjOk X.prog X.w H s.heap a (.frz o (.dK [])) from I.hok a _ (sub _ _ g))
    cases kv
    refine ⟨a, rfl, nm, of e1 e2 e3 ?_⟩
    cases q : es.toList with
    | nil => rfl
    | cons x l => rw [q] at e5; cases e5
  | @dT a o kvs _ g p =>
    cases p
    obtain rfl : u = Value.ref a := ru
    obtain ⟨_, _, nm, xs, px, o', es, ep, e1, e2, e3, e4, _⟩ := (show ObjOk X.prog X.w H s.heap a (.frz o (.dT [])) from I.hok a _ (sub _ _ g))
    cases px
    exact ⟨a, rfl, nm, of e1 e2 e3 (by rw [e4]; rfl)⟩
theorem ok_reads (I : Inv X pins σ H s) (sub : Same G H) {v : V} {u : Value} {d : D} (h : Rp X.K G v d) (ru : RelV v u) (o : okEq d = true) : ∃ as, Reads s.heap u (toP d) as :=
  Dp.reads I _ _ _ (dp_of sub d v (SeqAt.canLay_of_shaped o) h) ru
theorem vals_at {vs : List V} {us : List Value} (h : Vals vs us) {j : Nat} (hj : j < us.toArray.size) : ∃ v, vs[j]? = some v ∧ RelV v us.toArray[j] := by
  have hj' : j < us.length := by simpa using hj
  rcases paired_at h j with ⟨_, z⟩ | ⟨a, b, e1, e2, r⟩
  · rw [List.getElem?_eq_none_iff] at z; omega
  · refine ⟨a, e1, ?_⟩
    rw [List.getElem?_eq_getElem hj'] at e2
    cases e2
    simpa using r
theorem eqX_items {n : Nat} {A : Around} {xs ys : List V} {a b : List D} {us ws : List Value} (ih : ∀ (d e : D) (bb : Bool) (v u : V) (v' u' : Value), eqX n d e = some bb → Rp X.K G v d → Rp X.K G u e → RelV v v' → RelV u u' → SeqAt.EqAt A s v' u' bb) (h : allX (eqX n) a b = true)
    (p1 : RpL X.K G xs a) (p2 : RpL X.K G ys b) (r1 : Vals xs us) (r2 : Vals ys ws) : ∀ j (h1 : j < us.toArray.size) (h2 : j < ws.toArray.size), SeqAt.EqAt A s us.toArray[j] ws.toArray[j] ((fun _ => true) j) := by
  intro j h1 h2
  obtain ⟨v, e1, q1⟩ := vals_at r1 h1
  obtain ⟨u, e2, q2⟩ := vals_at r2 h2
  rcases rpL_at p1 j with ⟨z, _⟩ | ⟨v2, d, f1, f2, f3⟩
  · rw [z] at e1; cases e1
  rcases rpL_at p2 j with ⟨z, _⟩ | ⟨u2, e, g1, g2, g3⟩
  · rw [z] at e2; cases e2
  rw [e1] at f1; cases f1
  rw [e2] at g1; cases g1
  exact ih d e true v u _ _ (allX_at h j d e f2 g2) f3 g3 q1 q2
theorem all_true (n : Nat) : (List.range n).all (fun _ => true) = true := List.all_eq_true.mpr fun _ _ => rfl
theorem eqX_at (I : Inv X pins σ H s) (sub : Same G H) : ∀ (n : Nat) (A : Around), A.units + 64 + n < cLine → ∀ (d e : D) (bb : Bool) (v u : V) (v' u' : Value), eqX n d e = some bb → Rp X.K G v d → Rp X.K G u e → RelV v v' → RelV u u' → SeqAt.EqAt A s v' u' bb
  | 0, _, _, _, _, _, _, _, _, _, h, _, _, _, _ => by cases h
  | n + 1, A, hu, d, e, bb, v, u, v', u', h, pd, pe, rv, ru => by
    unfold eqX at h
    by_cases ok : (okEq d && okEq e) = true
    · rw [if_pos ok] at h
      cases h
      simp only [Bool.and_eq_true] at ok
      obtain ⟨as, r1⟩ := ok_reads I sub pd rv ok.1
      obtain ⟨bs, r2⟩ := ok_reads I sub pe ru ok.2
      exact SeqAt.eqAt_reads _ _ A s _ _ _ _ r1 r2 (SeqAt.canLay_of_shaped ok.1) (SeqAt.canLay_of_shaped ok.2) (SeqAt.room_of_shaped ok.1 (by omega))
    · rw [if_neg ok] at h
      have ih := eqX_at I sub n A.in1 (by show A.units + 1 + 64 + n < cLine; omega)
      split at h
      · rename_i a b
        by_cases al : allX (eqX n) a b = true
        · rw [if_pos al] at h
          cases h
          cases pd with
          | @tup l xs _ g1 p1 =>
            cases pe with
            | @tup m ys _ g2 p2 =>
              obtain rfl : v' = Value.ref l := rv
              obtain rfl : u' = Value.ref m := ru
              obtain ⟨us, r1, t1, _⟩ := I.tuple (SqT.of (sub _ _ g1))
              obtain ⟨ws, r2, t2, _⟩ := I.tuple (SqT.of (sub _ _ g2))
              by_cases z : l = m
              · subst z; exact SeqAt.EqAt.same _
              · have rc := SeqAt.RcAt.tuples (A := A) t1 t2 (by omega) (eqX_items ih al p1 p2 r1 r2)
                have hl : us.toArray.size = ws.toArray.size := by
                  rw [List.size_toArray, List.size_toArray, ← r1.length, ← r2.length, p1.length, p2.length, allX_len al]
                rw [hl, Nat.min_self, all_true] at rc
                exact SeqAt.EqAt.of_refs z (by simpa using rc)
        · rw [if_neg al] at h; cases h
      · rename_i a b
        by_cases al : allX (eqX n) a b = true
        · rw [if_pos al] at h
          cases h
          cases pd with
          | @lst l xs _ g1 p1 =>
            cases pe with
            | @lst m ys _ g2 p2 =>
              obtain rfl : v' = Value.ref l := rv
              obtain rfl : u' = Value.ref m := ru
              obtain ⟨us, r1, t1, _⟩ := I.list (SqL.of (sub _ _ g1))
              obtain ⟨ws, r2, t2, _⟩ := I.list (SqL.of (sub _ _ g2))
              by_cases z : l = m
              · subst z; exact SeqAt.EqAt.same _
              · have hl : us.toArray.size = ws.toArray.size := by
                  rw [List.size_toArray, List.size_toArray, ← r1.length, ← r2.length, p1.length, p2.length, allX_len al]
                have rc := SeqAt.RcAt.lists (A := A) t1.isList t2.isList hl (by omega) (eqX_items ih al p1 p2 r1 r2)
                rw [all_true] at rc
                exact SeqAt.EqAt.of_refs z rc
        · rw [if_neg al] at h; cases h
      · cases h
        obtain ⟨a, rfl, n1, d1⟩ := dict0 I sub pd rv
        obtain ⟨b, rfl, n2, d2⟩ := dict0 I sub pe ru
        by_cases z : a = b
        · subst z; exact SeqAt.EqAt.same _
        · refine SeqAt.EqAt.of_refs z fun P w E Q hq => ?_
          exact PySem.W.rcP_dicts (r := true) n1 n2 (d1 P w) (d2 P w) (by omega) (fun _ => .nil) E Q hq
      · cases h
def rNeX (K : PySem.W.Frag) : R2 := fun x y H Q => ∃ G d e b, Same G H ∧ Rp K G x d ∧ Rp K G y e ∧ eqX 20 d e = some b ∧ (d = .dct [] → False) ∧ Q (.bl (!b)) H
theorem op_neX (hu : X.A.units + 128 < cLine) : OpR X (compareOp .NotEq) (rNeX X.K) := by
  intro pins s σ H x y v u Q I rx ry h
  obtain ⟨G, d, e, b, sub, pd, pe, ex, nd, q⟩ := h
  unfold eqX at ex
  by_cases ok : (okEq d && okEq e) = true
  · rw [if_pos ok] at ex
    cases ex
    simp only [Bool.and_eq_true] at ok
    obtain ⟨as, r1⟩ := ok_reads I sub pd rx ok.1
    obtain ⟨bs, r2⟩ := ok_reads I sub pe ry ok.2
    exact SeqAt.compareNe_shaped r1 r2 ok.1 ok.2 (by omega) ⟨.bl _, H, I, rfl, q⟩
  · rw [if_neg ok] at ex
    have ih := eqX_at I sub 19 X.A.in1 (by show X.A.units + 1 + 64 + 19 < cLine; omega)
    split at ex
    · rename_i a b
      by_cases al : allX (eqX 19) a b = true
      · rw [if_pos al] at ex
        cases ex
        cases pd with
        | @tup l xs _ g1 p1 =>
          cases pe with
          | @tup m ys _ g2 p2 =>
            obtain rfl : v = Value.ref l := rx
            obtain rfl : u = Value.ref m := ry
            obtain ⟨us, r1, t1, _⟩ := I.tuple (SqT.of (sub _ _ g1))
            obtain ⟨ws, r2, t2, _⟩ := I.tuple (SqT.of (sub _ _ g2))
            have rc := SeqAt.RcNeAt.tuples (A := X.A) t1 t2 (by omega) (eqX_items ih al p1 p2 r1 r2)
            have hl : us.toArray.size = ws.toArray.size := by
              rw [List.size_toArray, List.size_toArray, ← r1.length, ← r2.length, p1.length, p2.length, allX_len al]
            rw [hl, Nat.min_self, all_true] at rc
            have ee : (!(true && ws.toArray.size == ws.toArray.size)) = false := by simp
            rw [ee] at rc
            exact rc X.prog X.w _ _ ⟨.bl false, H, I, rfl, q⟩
      · rw [if_neg al] at ex; cases ex
    · rename_i a b
      by_cases al : allX (eqX 19) a b = true
      · rw [if_pos al] at ex
        cases ex
        cases pd with
        | @lst l xs _ g1 p1 =>
          cases pe with
          | @lst m ys _ g2 p2 =>
            obtain rfl : v = Value.ref l := rx
            obtain rfl : u = Value.ref m := ry
            obtain ⟨us, r1, t1, _⟩ := I.list (SqL.of (sub _ _ g1))
            obtain ⟨ws, r2, t2, _⟩ := I.list (SqL.of (sub _ _ g2))
            have hl : us.toArray.size = ws.toArray.size := by
              rw [List.size_toArray, List.size_toArray, ← r1.length, ← r2.length, p1.length, p2.length, allX_len al]
            have rc := SeqAt.RcNeAt.lists (A := X.A) t1.isList t2.isList hl (by omega) (eqX_items ih al p1 p2 r1 r2)
            rw [all_true] at rc
            exact rc X.prog X.w _ _ ⟨.bl false, H, I, rfl, q⟩
      · rw [if_neg al] at ex; cases ex
    · exact absurd rfl nd
    · cases ex
end
def isDct : D → Bool
  | .dct _ => true
  | _ => false
def gNeX (d e : D) : Option D := if isDct d then none else (eqX 20 d e).map fun b => .bl (!b)
theorem d_neX {C : Fc} : OpD C (rNeX C.K) gNeX := by
  intro G H v1 v2 d1 d2 d Q s h1 h2 e k
  unfold gNeX at e
  by_cases z : isDct d1 = true
  · rw [if_pos z] at e; cases e
  · rw [if_neg z] at e
    cases q : eqX 20 d1 d2 with
    | none => rw [q] at e; cases e
    | some b =>
      rw [q] at e
      cases e
      exact ⟨G, d1, d2, b, s.sub, h1, h2, q, fun y => z (by rw [y]; rfl), k _ _ _ (Grow.refl s) (.bl _)⟩
/-- {} as it stands, never written to -/
theorem e_dct0 {X : Cx} {C : Fc} {E : XK} {pos : Pos} : PE X (.Dict [] [] pos) (tE C E (mC (.dct []))) := by
  refine ⟨fun pins s σ H Q I h => ?_⟩
  obtain ⟨r, ad, G, st, k⟩ := h
  refine wpAny_mono ((pe_dnewT (X := X) (pos := pos)).run pins s σ H (fun v H' => ∃ q, v = .ref q ∧ H q = none ∧ H' = upd H q (.dT [])) I (fun q hq => ⟨q, rfl, hq, rfl⟩)) (fun u s' hq => ?_) fun _ _ z => z
  obtain ⟨v, H', I', rv, q, rfl, hq, rfl⟩ := hq
  obtain ⟨od, I1⟩ := I'.lock (d := q) (u := .dT []) upd_same trivial
  rw [upd_twice] at I1
  have lay := Grow.lay (o := .frz od (.dT [])) st.hst.sub st.hst.gnt hq (fun ps z => by cases z)
  exact ⟨.ref q, _, I1, rv, k _ _ _ (st.grow lay) (Kp.grow lay) (.dT upd_same .nil)⟩
theorem u128 {k : Nat} {A : Around} (r : Room k A) : A.units + 128 < cLine := by have := r.un; omega
end DL

/-! The rules for defs, their counts given. -/
namespace DL
open PySem PySem.Spec PyProof.Rows L2 LamX
section
variable {P : Program} {w : World} {K : PySem.W.Frag} {mg : Str → Option Value} {base : Heap} {cls : Str → Addr} {T : List (Addr × Str)}
theorem dfF1 {x : Str} {st : Stmt} (N ps : List Str) (M : MS) (n j k : Nat) (hn : ps.length = n) (hj : N.length - ps.length = j) (d : Dfn K mg x st ps) (S : FnScope N ps (defScope st))
    (hbody : ∀ (f : Addr) (cdv : Value) (A : Around) (outer : List Env) (s : Shared) (H G : Hp) (E : XK), Room k (A.deeper (envOfC x (defScope st) s.heap.objs.size f cdv)) →
      PSs (cxOf (L2.CX P w) P w K mg base N x (defScope st) f cdv A outer s H E) (defBody st) (tS (fc0 K cls G H) E M)) :
    Df P w K mg base (k + 1) x (spF K cls (runF M n j)) := by
  subst hn hj
  exact dfF k d S hbody
theorem dfQ1 {x : Str} {st : Stmt} (N ps : List Str) (M : MS) (n j k : Nat) (hn : ps.length = n) (hj : N.length - ps.length = j) (d : Dfn K mg x st ps) (S : FnScope N ps (defScope st))
    (hbody : ∀ (f : Addr) (cdv : Value) (A : Around) (outer : List Env) (s : Shared) (H G : Hp) (E : XK) (a : Addr), Room k (A.deeper (envOfC x (defScope st) s.heap.objs.size f cdv)) →
      PSs (cxOf (L2.CX P w) P w K mg base N x (defScope st) f cdv A outer s H E) (defBody st) (tS (fcQ K cls G H a) E M)) :
    Df P w K mg base (k + 1) x (spQ K (runQ M n j)) := by
  subst hn hj
  exact dfQ k d S hbody
theorem dfT1 {x : Str} {st : Stmt} {c : Addr} (N ps : List Str) (M : MS) (n j k : Nat) (hn : ps.length = n) (hj : N.length - ps.length = j) (d : DfnL K mg x st ps c) (S : FnScope N ps (defScope st))
    (hbody : ∀ (f : Addr) (A : Around) (outer : List Env) (s : Shared) (H G : Hp) (E : XK), Room k (A.deeper (envOfC x (defScope st) s.heap.objs.size f (.ref c))) →
      PSs (cxOf (L2.CX P w) P w K mg base N x (defScope st) f (.ref c) A outer s H E) (defBody st) (tS (fcT K cls T G H) E M)) :
    Df P w K mg base (k + 1) x (spT K cls T (runF M n j)) := by
  subst hn hj
  exact dfT k d S hbody
theorem dfD1 {x : Str} {st : Stmt} {dvs : List V} (N ps : List Str) (M : MS) (n j k : Nat) (hn : ps.length = n) (hj : N.length - ps.length = j) (d : DfnD K mg x st dvs) (S : FnScope N ps (defScope st))
    (hbody : ∀ (f : Addr) (cdv : Value) (A : Around) (outer : List Env) (s : Shared) (H G : Hp) (E : XK), Room k (A.deeper (envOfC x (defScope st) s.heap.objs.size f cdv)) →
      PSs (cxOf (L2.CX P w) P w K mg base N x (defScope st) f cdv A outer s H E) (defBody st) (tS (fc0 K cls G H) E M)) :
    DfD P w K mg base (k + 1) x st dvs ps (spF K cls (runF M n j)) := by
  subst hn hj
  exact dfD k d S hbody
end
theorem pxL1 {Y : Cx} {A : Around} {outer : List Env} {s : Shared} {H : Hp} {E : XK} {scope : Scope} {f c' : Addr} : Passes (L2.CX (lamCx Y A outer s H E scope f c').prog (lamCx Y A outer s H E scope f c').w) (lamCx Y A outer s H E scope f c') E := by
  have h := @pxL Y A outer s H E scope f c'
  exact h
end DL

/-! The law's own def, at its very address; facts of the written part. -/
namespace DL
open PySem PySem.Spec PyProof.Rows L2 LamX
section
variable {P : Program} {w : World} {K : PySem.W.Frag} {mg : Str → Option Value} {base : Heap} {cls : Str → Addr} {T : List (Addr × Str)}
theorem fnT1 {x : Str} {st : Stmt} {c f : Addr} {oc : Value} {od : Option Addr} {kV doc pm : Value} {an : Option Addr} {ct : Value} {osl : Array (Option Value)} (N ps : List Str) (M : MS) (n j k : Nat) (hn : ps.length = n) (hj : N.length - ps.length = j)
    (lk : K.lookup f = some ⟨oc, od, .func (PySem.W.fnOf x x (defArgs st) (defBody st) (defScope st) .none kV doc pm an (.ref c) ct), osl⟩) (hc : PySem.W.codeIn K (.ref c) x = true) (S : FnScope N ps (defScope st))
    (hbody : ∀ (f : Addr) (A : Around) (outer : List Env) (s : Shared) (H G : Hp) (E : XK), Room k (A.deeper (envOfC x (defScope st) s.heap.objs.size f (.ref c))) →
      PSs (cxOf (L2.CX P w) P w K mg base N x (defScope st) f (.ref c) A outer s H E) (defBody st) (tS (fcT K cls T G H) E M)) :
    FnOk P w K mg base (L2.CX P w) (k + 1) f (PySem.W.fnOf x x (defArgs st) (defBody st) (defScope st) .none kV doc pm an (.ref c) ct) ps (spT K cls T (runF M n j)) := by
  subst hn hj
  have hpl : ps.length ≤ N.length := by have := congrArg List.length S.pre; rw [List.length_take] at this; omega
  refine fn_of lk hc S (fun vs H Q E h => spT_len h) (fun A outer s H vs Q E hr h => ?_)
  have hl' := spT_len h
  obtain ⟨G, ds, sub, gnt, p, tb, h⟩ := h
  have hl : ds.length = ps.length := by rw [← p.length]; exact hl'
  refine ⟨_, hbody f A outer s H G E hr, ?_⟩
  have hst : Hst (fcT K cls T G H) G H := ⟨sub, gnt, Same.refl _, fun _ z => z, fun _ z => z, fun _ _ z _ _ => z, fun _ _ z => z, tb⟩
  refine ⟨_, _, G, stt_start (C := fcT K cls T G H) (N := N) hst p (by rw [hl]; exact hpl), ?_⟩
  unfold runF at h
  rw [if_pos hl] at h
  rw [hl]
  generalize M (ds.map Sl.dat ++ List.replicate (N.length - ps.length) Sl.un) = z at h
  cases z with
  | nx r => exact fun ad' σ' G' H' s' _ => h .non G' H' s'.hst .non
  | rt d r => exact fun v ad' σ' G' H' s' pv => h v G' H' s'.hst pv
  | rtO l r => exact h.elim
  | exc c fs => exact fun dd fv G' H' s' hd pf => h dd fv G' H' s' hd pf
  | bk r => exact h.elim
  | ct r => exact h.elim
  | bad => exact h.elim
/-- a def as the facts tell it -/
theorem dfn_mk {h : Heap} {x : Str} {st : Stmt} {ps : List Str} {f : Addr} {oc : Value} {od an : Option Addr} {osl : Array (Option Value)} {kV doc pm cdv ct : Value} (X : K.In h) (G : h.Ns mainGlobals mg) (a : PySem.W.nsIn K mainGlobals x = some (some (.ref f)))
    (l : K.lookup f = some ⟨oc, od, .func (PySem.W.fnOf x x (defArgs st) (defBody st) (defScope st) .none kV doc pm an cdv ct), osl⟩) (c : PySem.W.codeIn K cdv x = true) (k : PySem.W.keepIn K (.ref f) = true)
    (b : ∀ (kV doc pm : Value) (an : Option Addr) (cdv ct : Value) (us : List Value), us.length = ps.length → bindArgs (PySem.W.fnOf x x (defArgs st) (defBody st) (defScope st) .none kV doc pm an cdv ct) ⟨us, []⟩ = pure (ps.zip us)) : Dfn K mg x st ps :=
  ⟨f, _, fun_mk (st := st) l c k, PySem.W.mg_of X G a, (fun_mk (st := st) l c k).binds b⟩
theorem dfnL_mk {h : Heap} {x : Str} {st : Stmt} {ps : List Str} {f c0 : Addr} {oc : Value} {od an : Option Addr} {osl : Array (Option Value)} {kV doc pm ct : Value} (X : K.In h) (G : h.Ns mainGlobals mg) (a : PySem.W.nsIn K mainGlobals x = some (some (.ref f)))
    (l : K.lookup f = some ⟨oc, od, .func (PySem.W.fnOf x x (defArgs st) (defBody st) (defScope st) .none kV doc pm an (.ref c0) ct), osl⟩) (c : PySem.W.codeIn K (.ref c0) x = true) (k : PySem.W.keepIn K (.ref f) = true)
    (b : ∀ (kV doc pm : Value) (an : Option Addr) (cdv ct : Value) (us : List Value), us.length = ps.length → bindArgs (PySem.W.fnOf x x (defArgs st) (defBody st) (defScope st) .none kV doc pm an cdv ct) ⟨us, []⟩ = pure (ps.zip us)) : DfnL K mg x st ps c0 :=
  ⟨f, oc, od, kV, doc, pm, an, ct, osl, l, c, k, PySem.W.mg_of X G a, (fun_mk (st := st) l c k).binds b⟩
theorem dfnD_mk {h : Heap} {x : Str} {st : Stmt} {f T0 : Addr} {oc : Value} {od an : Option Addr} {osl : Array (Option Value)} {kV doc pm cdv ct : Value} {o : Obj} {its : List Value} {n : Nat} {dvs : List V} (X : K.In h) (G : h.Ns mainGlobals mg) (a : PySem.W.nsIn K mainGlobals x = some (some (.ref f)))
    (l : K.lookup f = some ⟨oc, od, .func (PySem.W.fnOf x x (defArgs st) (defBody st) (defScope st) (.ref T0) kV doc pm an cdv ct), osl⟩) (c : PySem.W.codeIn K cdv x = true) (k : PySem.W.keepIn K (.ref f) = true)
    (lT : K.lookup T0 = some o) (oT : o.data = .seq its.toArray n) (r : Vals dvs its) (ne : dvs ≠ []) : DfnD K mg x st dvs :=
  ⟨f, _, ⟨⟨oc, od, .ref T0, kV, doc, pm, an, cdv, ct, osl, rfl, l, c, .inr ⟨ne, T0, o, its, n, rfl, lT, oT, r⟩, .inl rfl⟩, k⟩, PySem.W.mg_of X G a⟩
theorem gc_int {h : Heap} {x : Str} {i : Int} {t : Tok} (X : K.In h) (G : h.Ns mainGlobals mg) (a : PySem.W.nsIn K mainGlobals x = some (some (.int i t))) : ∃ u v, mg x = some u ∧ L2.RelV v u ∧ ∀ G, Rp K G v (.int i) :=
  ⟨_, .int i, PySem.W.mg_of X G a, ⟨t, rfl⟩, fun _ => .int i⟩
theorem gc_str {h : Heap} {x : Str} {i : Str} {t : Tok} (X : K.In h) (G : h.Ns mainGlobals mg) (a : PySem.W.nsIn K mainGlobals x = some (some (.str i t))) : ∃ u v, mg x = some u ∧ L2.RelV v u ∧ ∀ G, Rp K G v (.str i) :=
  ⟨_, .str i, PySem.W.mg_of X G a, ⟨t, rfl⟩, fun _ => .str i⟩
/-- a tuple of ints and texts, written at the top -/
theorem gc_tup {h : Heap} {x : Str} {a : Addr} {o : Obj} {its : List Value} {n : Nat} {xs : List V} {ds : List D} (X : K.In h) (G : h.Ns mainGlobals mg) (e : PySem.W.nsIn K mainGlobals x = some (some (.ref a))) (l : K.lookup a = some o) (hc : o.cls = .type "tuple") (hd : o.dict = none)
    (hs : o.data = .seq its.toArray n) (r : Vals xs its) (p : ∀ G, RpL K G xs ds) (hl : its.length ≤ 1000) : ∃ a o, mg x = some (.ref a) ∧ K.lookup a = some o ∧ o.cls = .type "tuple" ∧ o.dict = none ∧ ∀ G, Rp K G (.ref a) (.cst ds) :=
  ⟨a, o, PySem.W.mg_of X G e, l, hc, hd, fun G => .cst (.inr ⟨o, its.toArray, n, l, hc, hs, by rw [List.size_toArray, sizeLine_eq]; omega, by simpa using r⟩) (p G)⟩
theorem g_of_k {x : Str} {d : D} (h : ∃ a o, mg x = some (.ref a) ∧ K.lookup a = some o ∧ o.cls = .type "tuple" ∧ o.dict = none ∧ ∀ G, Rp K G (.ref a) d) : ∃ u v, mg x = some u ∧ L2.RelV v u ∧ ∀ G, Rp K G v d := by
  obtain ⟨a, o, m, _, _, _, r⟩ := h
  exact ⟨.ref a, .ref a, m, rfl, r⟩
theorem exm_mk {C1 C2 : Addr} {b : Bool} {nm q : Str} {N : Addr} {bs bm : List Value} {hdct : Bool} {sn : List Str} {sub : List Value} {ab : Bool} {col : Option Bool} {dd : Option Addr} {k0 k1 k2 k3 k5 : Option Value} {nw : String} (l : K.lookup C2 = some (excClassObj nm q C2 N bs bm hdct sn sub ab col dd k0 k1 k2 k3 k5 nw))
    (e : PySem.W.subIn K (.ref C2) (.type "BaseException") = some true) (t : PySem.W.typeIn K (.ref C2) = some (.type "type")) (s : PySem.W.subIn K (.ref C1) (.ref C2) = some b) : PySem.W.exmOne K (.ref C1) (.ref C2) = some b := by
  have c : (PySem.W.clsIn K C2).isSome = true := by unfold PySem.W.clsIn; rw [l] <;> rfl
  unfold PySem.W.exmOne PySem.W.kitCls
  rw [e, if_pos (by rfl)]
  simp only [c, t]
  rw [if_pos (by rfl)]
  exact s
theorem chd_mk {c P : Addr} {o : Obj} (l : K.lookup c = some o) (h : PySem.W.codeHdIn [(c, o)] c P = true) : PySem.W.codeHdIn K c P = true := by
  unfold PySem.W.codeHdIn at h ⊢
  have e : List.lookup c [(c, o)] = some o := by simp [List.lookup]
  rw [e] at h
  rw [l]
  exact h
end
end DL

/-! Evaluation rules for the plain law. -/
namespace DL
open PySem PySem.Spec PyProof.Rows L2
section
variable {r : DEnv} {a b c : ME} {i j k : Nat}
@[simp] theorem ev_sSeq (a b : MS) : sSeq a b r = match a r with
  | .nx r1 => b r1
  | x => x := rfl
@[simp] theorem ev_sNil : sNil r = .nx r := rfl
@[simp] theorem ev_sIf (c : ME) (a b : MS) : sIf c a b r = match c r with
  | .ok (.bl true) r1 => a r1
  | .ok (.bl false) r1 => b r1
  | .exc x fs => .exc x fs
  | _ => .bad := rfl
@[simp] theorem ev_sRet : sRet a r = match a r with
  | .ok d r1 => .rt d r1
  | .exc x fs => .exc x fs
  | .bad => .bad := rfl
@[simp] theorem ev_sAsg : sAsg i a r = match a r with
  | .ok d r1 => .nx (r1.set i (.dat d))
  | .exc x fs => .exc x fs
  | .bad => .bad := rfl
@[simp] theorem ev_sExp : sExp a r = match a r with
  | .ok _ r1 => .nx r1
  | .exc x fs => .exc x fs
  | .bad => .bad := rfl
@[simp] theorem ev_mC (d : D) : mC d r = .ok d r := rfl
@[simp] theorem ev_mV : mV i r = match r[i]? with
  | some (.dat d) => .ok d r
  | _ => .bad := rfl
@[simp] theorem ev_bind_ok {d : D} {f : D → DEnv → ER} : bindE (.ok d r) f = f d r := rfl
@[simp] theorem ev_bind_exc {c : Str} {fs : List (Str × D)} {f : D → DEnv → ER} : bindE (.exc c fs) f = .exc c fs := rfl
@[simp] theorem ev_bind_bad {f : D → DEnv → ER} : bindE .bad f = .bad := rfl
@[simp] theorem ev_opt_some {d : D} : optE (some d) r = .ok d r := rfl
@[simp] theorem ev_opt_none : optE none r = .bad := rfl
@[simp] theorem ev_mOp {g : D → D → Option D} : mOp g a b r = bindE (a r) fun x r1 => bindE (b r1) fun y r2 => optE (g x y) r2 := rfl
@[simp] theorem ev_mUn {g : D → Option D} : mUn g a r = bindE (a r) fun x r1 => optE (g x) r1 := rfl
@[simp] theorem ev_aNil : aNil r = .ok [] r := rfl
@[simp] theorem ev_aCons {b : MA} : aCons a b r = match a r with
  | .ok x r1 => (match b r1 with
    | .ok l r2 => .ok (x :: l) r2
    | .exc c fs => .exc c fs
    | .bad => .bad)
  | .exc c fs => .exc c fs
  | .bad => .bad := rfl
@[simp] theorem ev_mAgs {g : List D → Option D} {b : MA} : mAgs g b r = match b r with
  | .ok l r1 => optE (g l) r1
  | .exc c fs => .exc c fs
  | .bad => .bad := rfl
@[simp] theorem ev_mAnd : mAnd a b r = bindE (a r) fun x r1 => match x with
  | .bl true => b r1
  | .bl false => .ok (.bl false) r1
  | _ => .bad := rfl
@[simp] theorem ev_mOr : mOr a b r = bindE (a r) fun x r1 => match x with
  | .bl true => .ok (.bl true) r1
  | .bl false => b r1
  | _ => .bad := rfl
@[simp] theorem ev_mNot : mNot a r = bindE (a r) fun x r1 => optE (gNot x) r1 := rfl
@[simp] theorem ev_gNot {b : Bool} : gNot (.bl b) = some (.bl (!b)) := rfl
@[simp] theorem ev_mIf : mIf a b c r = bindE (a r) fun x r1 => match x with
  | .bl true => b r1
  | .bl false => c r1
  | _ => .bad := rfl
@[simp] theorem ev_mChain {g g' : D → D → Option D} : mChain g g' a b c r = bindE (a r) fun x r1 => bindE (b r1) fun y r2 => match g x y with
  | some (.bl true) => bindE (c r2) fun z r3 => optE (g' y z) r3
  | some (.bl false) => .ok (.bl false) r2
  | _ => .bad := rfl
end
section
variable {i j : Int}
@[simp] theorem ev_iAdd : iAdd (.int i) (.int j) = some (.int (i + j)) := rfl
@[simp] theorem ev_iSub : iSub (.int i) (.int j) = some (.int (i - j)) := rfl
@[simp] theorem ev_iMul : iMul (.int i) (.int j) = if (-(2 ^ 64) < i ∧ i < 2 ^ 64) ∨ (-(2 ^ 64) < j ∧ j < 2 ^ 64) then some (.int (i * j)) else none := rfl
@[simp] theorem ev_iDiv : iDiv (.int i) (.int j) = if 0 < j ∧ j < 1073741824 then some (.int (i / j)) else none := rfl
@[simp] theorem ev_iMod : iMod (.int i) (.int j) = if 0 < j then some (.int (i % j)) else none := rfl
@[simp] theorem ev_iPow : iPow (.int i) (.int j) = if 0 ≤ j ∧ j ≤ 1000000 ∧ i.natAbs < 2 ^ 64 then some (.int (i ^ j.toNat)) else none := rfl
@[simp] theorem ev_iLt : iLt (.int i) (.int j) = some (.bl (decide (i < j))) := rfl
@[simp] theorem ev_iLe : iLe (.int i) (.int j) = some (.bl (decide (i ≤ j))) := rfl
@[simp] theorem ev_iGt : iGt (.int i) (.int j) = some (.bl (decide (j < i))) := rfl
@[simp] theorem ev_iGe : iGe (.int i) (.int j) = some (.bl (decide (j ≤ i))) := rfl
@[simp] theorem ev_iNeg : iNeg (.int i) = some (.int (-i)) := rfl
@[simp] theorem ev_b1 {g : D → Option D} {x : D} : b1 g [x] = g x := rfl
@[simp] theorem ev_gInt : gInt (.int i) = some (.int i) := rfl
@[simp] theorem ev_gTupD {l : List D} : gTupD l = if l.length ≤ 16777216 then some (.tup l) else none := by simp [gTupD, short]
@[simp] theorem ev_gLstD {l : List D} : gLstD l = if l.length ≤ 16777216 then some (.lst l) else none := by simp [gLstD, short]
@[simp] theorem ev_gLen_l {l : List D} : gLen (.lst l) = some (.int l.length) := rfl
@[simp] theorem ev_gLen_t {l : List D} : gLen (.tup l) = some (.int l.length) := rfl
@[simp] theorem ev_gLen_c {l : List D} : gLen (.cst l) = some (.int l.length) := rfl
@[simp] theorem ev_gLen_s {l : List Int} : gLen (.scr l) = some (.int l.length) := rfl
@[simp] theorem ev_gIx_l {l : List D} : gIx (.lst l) (.int i) = atI l i := rfl
@[simp] theorem ev_gIx_t {l : List D} : gIx (.tup l) (.int i) = atI l i := rfl
@[simp] theorem ev_gIx_c {l : List D} : gIx (.cst l) (.int i) = atI l i := rfl
@[simp] theorem ev_gIx_s {l : List Int} : gIx (.scr l) (.int i) = (atI l i).map .int := rfl
@[simp] theorem atI_zero {α : Type} {l : List α} : atI l 0 = l[0]? := by
  unfold atI ixN
  cases l <;> simp
theorem atI_nat {α : Type} (l : List α) (n : Nat) : atI l (n : Int) = l[n]? := by
  unfold atI ixN
  rw [if_pos (by omega)]
  by_cases h : n < l.length
  · rw [if_pos (by omega)]; simp
  · rw [if_neg (by omega)]; symm; simp; omega
@[simp] theorem atI_1 {α : Type} {l : List α} : atI l 1 = l[1]? := atI_nat l 1
@[simp] theorem atI_2 {α : Type} {l : List α} : atI l 2 = l[2]? := atI_nat l 2
@[simp] theorem atI_3 {α : Type} {l : List α} : atI l 3 = l[3]? := atI_nat l 3
@[simp] theorem atI_4 {α : Type} {l : List α} : atI l 4 = l[4]? := atI_nat l 4
@[simp] theorem atI_5 {α : Type} {l : List α} : atI l 5 = l[5]? := atI_nat l 5
@[simp] theorem atI_6 {α : Type} {l : List α} : atI l 6 = l[6]? := atI_nat l 6
@[simp] theorem atI_7 {α : Type} {l : List α} : atI l 7 = l[7]? := atI_nat l 7
@[simp] theorem atI_8 {α : Type} {l : List α} : atI l 8 = l[8]? := atI_nat l 8
@[simp] theorem atI_9 {α : Type} {l : List α} : atI l 9 = l[9]? := atI_nat l 9
@[simp] theorem gEq_int : gEq (.int i) (.int j) = some (.bl (i == j)) := rfl
@[simp] theorem gNe_int : gNe (.int i) (.int j) = some (.bl (!(i == j))) := rfl
theorem eqB_self {d : D} (h : okEq d = true) : eqB d d = true := SeqAt.eqv_refl _ (SeqAt.canLay_of_shaped h)
theorem gNe_self {d : D} (h : okEq d = true) : gNe d d = some (.bl false) := by
  unfold gNe
  rw [h, eqB_self h]
  rfl
theorem gEq_self {d : D} (h : okEq d = true) : gEq d d = some (.bl true) := by
  unfold gEq
  rw [h, eqB_self h]
  rfl
end
end DL

namespace P
open PySem PySem.Spec PyProof.Rows L2 DL LamX
abbrev Pr : Program := PySem.Challenge.pw_loadanywhere_k02_code_words
def topS (i : Nat) : Stmt := Pr.main.body.getD i (.Pass ⟨0, 0, 0, 0⟩)
def inS (i j : Nat) : Stmt := match topS i with
  | .ClassDef _ _ _ body _ _ _ _ _ _ _ => body.getD j (.Pass ⟨0, 0, 0, 0⟩)
  | _ => .Pass ⟨0, 0, 0, 0⟩
abbrev c_LETTERS : D := (.str "abcdefghijklmnopqrstuvwxyz")
abbrev c_LONGEST : D := (.int 8)
abbrev c_KINDS : D := (.cst [(.str "piece"), (.str "name"), (.str "in")])
abbrev c_CODES : D := (.int 32)
abbrev c_FIELDS : D := (.int 8)
abbrev c_STEP : D := (.int 2048)
abbrev c_CALLED : D := (.cst [(.str "stop"), (.str "take"), (.str "tell"), (.str "ask"), (.str "askfar"), (.str "go"), (.str "gofar"), (.str "set"), (.str "here"), (.str "copy"), (.str "add"), (.str "less"), (.str "load"), (.str "store"), (.str "call"), (.str "callfar"), (.str "jump")])
abbrev c_USED : D := (.cst [(.str ""), (.str "x"), (.str "x"), (.str "d"), (.str ""), (.str "d"), (.str ""), (.str "x"), (.str "xd"), (.str "xy"), (.str "xy"), (.str "xy"), (.str "xyd"), (.str "xyd"), (.str "d"), (.str ""), (.str "x")])
abbrev excs : List Str := ["BadSum", "BadField"]
structure Txt (K : PySem.W.Frag) (mg : Str → Option Value) (cls : Str → Addr) : Prop where
  d_is_integer : Dfn K mg "is_integer" (topS 3) ["thing"]
  d_is_list : Dfn K mg "is_list" (topS 4) ["thing"]
  d_is_name : Dfn K mg "is_name" (topS 5) ["thing"]
  d_is_unknown : Dfn K mg "is_unknown" (topS 12) ["thing"]
  d_order_of : Dfn K mg "order_of" (topS 13) ["unknown"]
  d_summed : Dfn K mg "summed" (topS 14) ["number", "pairs"]
  d_is_pair_of : Dfn K mg "is_pair_of" (topS 15) ["thing"]
  d_is_sum : Dfn K mg "is_sum" (topS 16) ["thing"]
  d_sum_of : Dfn K mg "sum_of" (topS 17) ["thing"]
  d_is_below : Dfn K mg "is_below" (topS 24) ["thing", "most"]
  d_coded : DfnD K mg "coded" (topS 25) [.int 0, .int 0, .int 0]
  d_fields_in : Dfn K mg "fields_in" (topS 26) ["one"]
  d_fields : Dfn K mg "fields" (topS 27) ["word"]
  d_instruction_in : Dfn K mg "instruction_in" (topS 28) ["one"]
  d_instruction : Dfn K mg "instruction" (topS 29) ["word"]
  d_law_cell : Dfn K mg "_law_cell" (topS 31) ["_law_script", "_law_k"]
  d_law_pool : Dfn K mg "_law_pool" (topS 32) ["_law_cell_here"]
  d_law_take : Dfn K mg "_law_take" (topS 33) ["_law_pool_here", "_law_many"]
  d_law_one : Dfn K mg "_law_one" (topS 34) ["_law_pool_here", "_law_things"]
  d_law_row : Dfn K mg "_law_row" (topS 35) ["_law_word"]
  d_law_key : Dfn K mg "_law_key" (topS 36) ["_law_unknown"]
  d_law_total : Dfn K mg "_law_total" (topS 37) ["_law_number", "_law_pairs"]
  d_law_met : Dfn K mg "_law_met" (topS 38) ["_law_ask"]
  d_law_first_bad : Dfn K mg "_law_first_bad" (topS 39) ["_law_code", "_law_x", "_law_y", "_law_d"]
  d_law_told : Dfn K mg "_law_told" (topS 40) ["_law_found"]
  n_len : mg "len" = none
  n_int : mg "int" = none
  n_isinstance : mg "isinstance" = none
  n_bool : mg "bool" = none
  n_str : mg "str" = none
  n_list : mg "list" = none
  n_tuple : mg "tuple" = none
  n_all : mg "all" = none
  n_any : mg "any" = none
  n_sorted : mg "sorted" = none
  n_range : mg "range" = none
  g_LETTERS : ∃ u v, mg "LETTERS" = some u ∧ L2.RelV v u ∧ ∀ G, Rp K G v c_LETTERS
  g_LONGEST : ∃ u v, mg "LONGEST" = some u ∧ L2.RelV v u ∧ ∀ G, Rp K G v c_LONGEST
  g_KINDS : ∃ u v, mg "KINDS" = some u ∧ L2.RelV v u ∧ ∀ G, Rp K G v c_KINDS
  g_CODES : ∃ u v, mg "CODES" = some u ∧ L2.RelV v u ∧ ∀ G, Rp K G v c_CODES
  g_FIELDS : ∃ u v, mg "FIELDS" = some u ∧ L2.RelV v u ∧ ∀ G, Rp K G v c_FIELDS
  g_STEP : ∃ u v, mg "STEP" = some u ∧ L2.RelV v u ∧ ∀ G, Rp K G v c_STEP
  g_CALLED : ∃ u v, mg "CALLED" = some u ∧ L2.RelV v u ∧ ∀ G, Rp K G v c_CALLED
  g_USED : ∃ u v, mg "USED" = some u ∧ L2.RelV v u ∧ ∀ G, Rp K G v c_USED
  k_KINDS : ∃ a o, mg "KINDS" = some (.ref a) ∧ K.lookup a = some o ∧ o.cls = .type "tuple" ∧ o.dict = none ∧ ∀ G, Rp K G (.ref a) c_KINDS
  k_CALLED : ∃ a o, mg "CALLED" = some (.ref a) ∧ K.lookup a = some o ∧ o.cls = .type "tuple" ∧ o.dict = none ∧ ∀ G, Rp K G (.ref a) c_CALLED
  k_USED : ∃ a o, mg "USED" = some (.ref a) ∧ K.lookup a = some o ∧ o.cls = .type "tuple" ∧ o.dict = none ∧ ∀ G, Rp K G (.ref a) c_USED
  nm_BadSum : mg "BadSum" = some (.ref (cls "BadSum"))
  i_BadSum : IniD K (cls "BadSum") "BadSum.__init__" (inS 8 0) ["self", "thing"] ["thing"]
  nm_BadField : mg "BadField" = some (.ref (cls "BadField"))
  i_BadField : IniD K (cls "BadField") "BadField.__init__" (inS 9 0) ["self", "name"] ["name"]
  exm_law_met : ∀ c ∈ excs, ∀ y ∈ ([("BadField", "field", ["name"]), ("BadSum", "sum", ["thing"])] : Cls), PySem.W.exmOne K (.ref (cls c)) (.ref (cls y.1)) = some (decide (c = y.1))
  clo_law_met : ClsOk K mg cls (defScope (topS 38)) [("BadField", "field", ["name"]), ("BadSum", "sum", ["thing"])]
/-- the tables of code objects -/
def tabL (tb : Str → Addr × Addr) : List (Addr × Str) := [((tb "_law_met_two").2, ("_law_met_two" : Str) ++ ".<locals>." ++ "<lambda>"), ((tb "law").2, ("law" : Str) ++ ".<locals>." ++ "<lambda>")]
theorem mem_law_met_two (tb : Str → Addr × Addr) : ((tb "_law_met_two").2, ("_law_met_two" : Str) ++ ".<locals>." ++ "<lambda>") ∈ tabL tb := .head _
theorem mem_law (tb : Str → Addr × Addr) : ((tb "law").2, ("law" : Str) ++ ".<locals>." ++ "<lambda>") ∈ tabL tb := .tail _ (.head _)
structure TxtB (K : PySem.W.Frag) (base : Heap) (mg : Str → Option Value) (tb : Str → Addr × Addr) : Prop where
  d_law_met_two : DfnL K mg "_law_met_two" (topS 41) ["_law_odd"] (tb "_law_met_two").1
  tb_law_met_two : TabB base mg (tb "_law_met_two").1 (tb "_law_met_two").2
  tb_law : TabB base mg (tb "law").1 (tb "law").2
  uq : ∀ (P : Addr) (n : Str) (p : Addr × Str), p ∈ tabL tb → p.1 = P → (P, n) ∈ tabL tb → p.2 = n
section
variable {w : World} {K : PySem.W.Frag} {mg : Str → Option Value} {cls : Str → Addr} {base : Heap} {tb : Str → Addr × Addr}
theorem sx_BadSum : FnScope ["self", "thing"] ["self", "thing"] (defScope (inS 8 0)) := ⟨rfl, rfl, rfl, by decide +kernel, rfl, by decide +kernel, by decide +kernel⟩
theorem ox_BadSum (T : Txt K mg cls) : ExcD Pr w K mg base (cls "BadSum") 1 "BadSum" ["thing"] := exc1 T.nm_BadSum T.i_BadSum sx_BadSum
theorem sx_BadField : FnScope ["self", "name"] ["self", "name"] (defScope (inS 9 0)) := ⟨rfl, rfl, rfl, by decide +kernel, rfl, by decide +kernel, by decide +kernel⟩
theorem ox_BadField (T : Txt K mg cls) : ExcD Pr w K mg base (cls "BadField") 1 "BadField" ["name"] := exc1 T.nm_BadField T.i_BadField sx_BadField
/-! is_integer -/
abbrev s_is_integer : Stmt := topS 3
abbrev N_is_integer : List Str := ["thing"]
theorem sc_is_integer : FnScope N_is_integer ["thing"] (defScope s_is_integer) := ⟨rfl, rfl, rfl, by decide +kernel, rfl, by decide +kernel, by decide +kernel⟩
def M_is_integer : MS := (sRet (mAnd (mUn (gIsi .int) (mV 0)) (mNot (mUn (gIsi .bool) (mV 0)))))
def F_is_integer : List D → FR := runF M_is_integer 1 0
theorem ok_is_integer (T : Txt K mg cls) : Df Pr w K mg base 1 "is_integer" (spF K cls F_is_integer) :=
  dfF1 N_is_integer ["thing"] M_is_integer 1 0 0 rfl rfl T.d_is_integer sc_is_integer fun f cdv A outer s H G E hr =>
  (s_one (s_ret (e_and (e_isi .int (e_v 0) T.n_isinstance T.n_int) (e_one (e_not (e_isi .bool (e_v 0) T.n_isinstance T.n_bool))))))
/-! is_list -/
abbrev s_is_list : Stmt := topS 4
abbrev N_is_list : List Str := ["thing"]
theorem sc_is_list : FnScope N_is_list ["thing"] (defScope s_is_list) := ⟨rfl, rfl, rfl, by decide +kernel, rfl, by decide +kernel, by decide +kernel⟩
def M_is_list : MS := (sRet (mUn gIsiLT (mV 0)))
def F_is_list : List D → FR := runF M_is_list 1 0
theorem ok_is_list (T : Txt K mg cls) : Df Pr w K mg base 1 "is_list" (spF K cls F_is_list) :=
  dfF1 N_is_list ["thing"] M_is_list 1 0 0 rfl rfl T.d_is_list sc_is_list fun f cdv A outer s H G E hr =>
  (s_one (s_ret (e_isiLT T.n_isinstance T.n_list T.n_tuple (e_v 0))))
/-! is_name -/
abbrev s_is_name : Stmt := topS 5
abbrev N_is_name : List Str := ["thing", "sign"]
theorem sc_is_name : FnScope N_is_name ["thing"] (defScope s_is_name) := ⟨rfl, rfl, rfl, by decide +kernel, rfl, by decide +kernel, by decide +kernel⟩
def M_is_name : MS := (sRet (mAnd (mUn (gIsi .str) (mV 0)) (mAnd (mChain iLt iLe (mC (.int 0)) (mAgs (b1 gLen) (aCons (mV 0) aNil)) (mC c_LONGEST)) (mAgs (b1 gAll) (aCons (mFrz (mLc (mSigns (mV 0)) (gN 1) mYes (mOp sIn (mV 1) (mC c_LETTERS)) [1])) aNil)))))
def F_is_name : List D → FR := runF M_is_name 1 1
theorem ok_is_name (T : Txt K mg cls) : Df Pr w K mg base 1 "is_name" (spF K cls F_is_name) :=
  dfF1 N_is_name ["thing"] M_is_name 1 1 0 rfl rfl T.d_is_name sc_is_name fun f cdv A outer s H G E hr =>
  (s_one (s_ret (e_and (e_isi .str (e_v 0) T.n_isinstance T.n_str) (e_and (e_chain op_lt op_le d_lt d_le e_int (e_b call_len d_len (a_cons (e_v 0) a_nil) T.n_len) (e_g T.g_LONGEST)) (e_one (e_b (cr_all rfl) d_all (a_cons (e_frz (o_lc (own := [("sign", 1)]) sc_is_name.nd (i_str (e_v 0)) (blkOk_by (N := N_is_name) (sc := defScope s_is_name) (by decide +kernel)) (fun _ _ _ _ _ => (gk_n (i := 1) sc_is_name.nd)) (fun _ _ _ _ _ => c_yes) (fun _ _ _ _ _ => (e_cmp op_in_str d_ins (e_v 1) (e_g T.g_LETTERS))))) a_nil) T.n_all))))))
/-! is_unknown -/
abbrev s_is_unknown : Stmt := topS 12
abbrev N_is_unknown : List Str := ["thing"]
theorem sc_is_unknown : FnScope N_is_unknown ["thing"] (defScope s_is_unknown) := ⟨rfl, rfl, rfl, by decide +kernel, rfl, by decide +kernel, by decide +kernel⟩
def M_is_unknown : MS := (sSeq (sIf (mOr (mNot (mCall F_is_list (aCons (mV 0) aNil))) (mOr (mOp gNe (mAgs (b1 gLen) (aCons (mV 0) aNil)) (mC (.int 2))) (mOp gNotIn (mOp gIx (mV 0) (mC (.int 0))) (mC c_KINDS)))) (sRet (mC (.bl false))) sNil)
  (sSeq (sIf (mOp gEq (mOp gIx (mV 0) (mC (.int 0))) (mC (.str "in"))) (sRet (mAnd (mCall F_is_integer (aCons (mOp gIx (mV 0) (mC (.int 1))) aNil)) (mOp iGt (mOp gIx (mV 0) (mC (.int 1))) (mC (.int 0))))) sNil)
  (sRet (mCall F_is_name (aCons (mOp gIx (mV 0) (mC (.int 1))) aNil)))))
def F_is_unknown : List D → FR := runF M_is_unknown 1 0
theorem ok_is_unknown (T : Txt K mg cls) : Df Pr w K mg base 2 "is_unknown" (spF K cls F_is_unknown) :=
  dfF1 N_is_unknown ["thing"] M_is_unknown 1 0 1 rfl rfl T.d_is_unknown sc_is_unknown fun f cdv A outer s H G E hr =>
  (s_cons (s_if (PW.pt (t_or (t_not (t_val (e_df (ok_is_list T) hr px (a_cons (e_v 0) a_nil)))) (t_or (t_cmp (op_neD hr.units) d_ne (e_b call_len d_len (a_cons (e_v 0) a_nil) T.n_len) e_int) (t_or1 (t_cmp (op_notInE (u65 hr)) d_notIn (e_ix ix_seq d_ix (e_v 0) e_int) (e_g T.g_KINDS)))))) (s_one (s_ret e_bl)) s_nil)
  (s_cons (s_if (t_cmp (op_eqD hr.units) d_eq (e_ix ix_seq d_ix (e_v 0) e_int) e_str) (s_one (s_ret (e_and (e_df (ok_is_integer T) hr px (a_cons (e_ix ix_seq d_ix (e_v 0) e_int) a_nil)) (e_one (e_cmp op_gt d_gt (e_ix ix_seq d_ix (e_v 0) e_int) e_int))))) s_nil)
  (s_one (s_ret (e_df (ok_is_name T) hr px (a_cons (e_ix ix_seq d_ix (e_v 0) e_int) a_nil))))))
/-! order_of -/
abbrev s_order_of : Stmt := topS 13
abbrev N_order_of : List Str := ["unknown"]
theorem sc_order_of : FnScope N_order_of ["unknown"] (defScope s_order_of) := ⟨rfl, rfl, rfl, by decide +kernel, rfl, by decide +kernel, by decide +kernel⟩
def M_order_of : MS := (sRet (mAgs gTupD (aCons (mOp gTIndex (mC c_KINDS) (noX (mOp gIx (mV 0) (mC (.int 0))))) (aCons (mOp gIx (mV 0) (mC (.int 1))) aNil))))
def F_order_of : List D → FR := runF M_order_of 1 0
theorem ok_order_of (T : Txt K mg cls) : Df Pr w K mg base 1 "order_of" (spF K cls F_order_of) :=
  dfF1 N_order_of ["unknown"] M_order_of 1 0 0 rfl rfl T.d_order_of sc_order_of fun f cdv A outer s H G E hr =>
  (s_one (s_ret (e_tup (a_cons (e_tix T.k_KINDS (e_ix ix_seq d_ix (e_v 0) e_int)) (a_cons (e_ix ix_seq d_ix (e_v 0) e_int) a_nil)))))
/-! summed -/
abbrev s_summed : Stmt := topS 14
def M_summed_b1 : MS := (sDPut 2 (mV 4) (mOp iAdd (mDGet2 2 (mV 4) (mC (.int 0))) (mV 5)))
abbrev N_summed : List Str := ["number", "pairs", "found", "order", "unknown", "multiple"]
theorem sc_summed : FnScope N_summed ["number", "pairs"] (defScope s_summed) := ⟨rfl, rfl, rfl, by decide +kernel, rfl, by decide +kernel, by decide +kernel⟩
def M_summed : MS := (sSeq (sNewDT 2)
  (sSeq (sFor (mSeq (mV 1)) (gTup2 2 (gsCons (gN 4) (gsCons (gN 5) gsNil))) M_summed_b1)
  (sSeq (sFrzD 2 (sAsg 3 (mSortK F_order_of (mFrz (mLc (mKeys (mV 2)) (gN 4) (mOp gNe (mOp gDIx (mV 2) (mV 4)) (mC (.int 0))) (mV 4) [4])))))
  (sRet (mAgs gTupD (aCons (mV 0) (aCons (mAgs (b1 gTupOf) (aCons (mFrz (mLc (mSeq (mV 3)) (gN 4) mYes (mAgs gTupD (aCons (mV 4) (aCons (mOp gDIx (mV 2) (mV 4)) aNil))) [4])) aNil)) aNil)))))))
def F_summed : List D → FR := runF M_summed 2 4
theorem ok_summed (T : Txt K mg cls) : Df Pr w K mg base 4 "summed" (spF K cls F_summed) :=
  dfF1 N_summed ["number", "pairs"] M_summed 2 4 3 rfl rfl T.d_summed sc_summed fun f cdv A outer s H G E hr =>
  (s_cons (s_newDT (i := 2) sc_summed.nd)
  (s_cons (s_for po (i_seq (e_v 1)) (g_tup (n := 2) (gs_cons (g_n (i := 4) sc_summed.nd) (gs_cons (g_n (i := 5) sc_summed.nd) gs_nil))) (s_one (s_dput (i := 2) (u1 hr) (e_v 4) (e_op op_add d_add (e_dget2 (i := 2) (u1 hr) (e_v 4) e_int) (e_v 5)))))
  (s_cons (s_frzd 2 (s_asg (i := 3) sc_summed.nd (e_sortK (ok_order_of T) hr (e_frz (o_lc (own := [("unknown", 4)]) sc_summed.nd (i_keys (e_v 2)) (blkOk_by (N := N_summed) (sc := defScope s_summed) (by decide +kernel)) (fun _ _ _ _ _ => (gk_n (i := 4) sc_summed.nd)) (fun _ _ _ _ _ => (c_one (t_cmp (op_neD hr.units) d_ne (e_dix (u1 hr) (e_v 2) (e_v 4)) e_int))) (fun _ _ _ _ _ => (e_v 4)))) T.n_sorted)))
  (s_one (s_ret (e_tup (a_cons (e_v 0) (a_cons (e_ty call_tuple_of d_tupOf (a_cons (e_frz (o_lc (own := [("unknown", 4)]) sc_summed.nd (i_seq (e_v 3)) (blkOk_by (N := N_summed) (sc := defScope s_summed) (by decide +kernel)) (fun _ _ _ _ _ => (gk_n (i := 4) sc_summed.nd)) (fun _ _ _ _ _ => c_yes) (fun _ _ _ _ _ => (e_tup (a_cons (e_v 4) (a_cons (e_dix (u1 hr) (e_v 2) (e_v 4)) a_nil)))))) a_nil) T.n_tuple) a_nil))))))))
/-! is_pair_of -/
abbrev s_is_pair_of : Stmt := topS 15
abbrev N_is_pair_of : List Str := ["thing"]
theorem sc_is_pair_of : FnScope N_is_pair_of ["thing"] (defScope s_is_pair_of) := ⟨rfl, rfl, rfl, by decide +kernel, rfl, by decide +kernel, by decide +kernel⟩
def M_is_pair_of : MS := (sRet (mAnd (mCall F_is_list (aCons (mV 0) aNil)) (mAnd (mOp gEq (mAgs (b1 gLen) (aCons (mV 0) aNil)) (mC (.int 2))) (mAnd (mCall F_is_unknown (aCons (mOp gIx (mV 0) (mC (.int 0))) aNil)) (mCall F_is_integer (aCons (mOp gIx (mV 0) (mC (.int 1))) aNil))))))
def F_is_pair_of : List D → FR := runF M_is_pair_of 1 0
theorem ok_is_pair_of (T : Txt K mg cls) : Df Pr w K mg base 3 "is_pair_of" (spF K cls F_is_pair_of) :=
  dfF1 N_is_pair_of ["thing"] M_is_pair_of 1 0 2 rfl rfl T.d_is_pair_of sc_is_pair_of fun f cdv A outer s H G E hr =>
  (s_one (s_ret (e_and (e_df (ok_is_list T) hr px (a_cons (e_v 0) a_nil)) (e_and (e_cmp (op_eqD hr.units) d_eq (e_b call_len d_len (a_cons (e_v 0) a_nil) T.n_len) e_int) (e_and (e_df (ok_is_unknown T) hr px (a_cons (e_ix ix_seq d_ix (e_v 0) e_int) a_nil)) (e_one (e_df (ok_is_integer T) hr px (a_cons (e_ix ix_seq d_ix (e_v 0) e_int) a_nil))))))))
/-! is_sum -/
abbrev s_is_sum : Stmt := topS 16
abbrev N_is_sum : List Str := ["thing", "pair"]
theorem sc_is_sum : FnScope N_is_sum ["thing"] (defScope s_is_sum) := ⟨rfl, rfl, rfl, by decide +kernel, rfl, by decide +kernel, by decide +kernel⟩
def M_is_sum : MS := (sSeq (sIf (mCall F_is_integer (aCons (mV 0) aNil)) (sRet (mC (.bl true))) sNil)
  (sSeq (sIf (mOr (mNot (mCall F_is_list (aCons (mV 0) aNil))) (mOr (mOp gNe (mAgs (b1 gLen) (aCons (mV 0) aNil)) (mC (.int 2))) (mOr (mNot (mCall F_is_integer (aCons (mOp gIx (mV 0) (mC (.int 0))) aNil))) (mNot (mCall F_is_list (aCons (mOp gIx (mV 0) (mC (.int 1))) aNil)))))) (sRet (mC (.bl false))) sNil)
  (sRet (mAgs (b1 gAll) (aCons (mFrz (mLc (mSeq (mOp gIx (mV 0) (mC (.int 1)))) (gN 1) mYes (mCall F_is_pair_of (aCons (mV 1) aNil)) [1])) aNil)))))
def F_is_sum : List D → FR := runF M_is_sum 1 1
theorem ok_is_sum (T : Txt K mg cls) : Df Pr w K mg base 4 "is_sum" (spF K cls F_is_sum) :=
  dfF1 N_is_sum ["thing"] M_is_sum 1 1 3 rfl rfl T.d_is_sum sc_is_sum fun f cdv A outer s H G E hr =>
  (s_cons (s_if (t_val (e_df (ok_is_integer T) hr px (a_cons (e_v 0) a_nil))) (s_one (s_ret e_bl)) s_nil)
  (s_cons (s_if (PW.pt (t_or (t_not (t_val (e_df (ok_is_list T) hr px (a_cons (e_v 0) a_nil)))) (t_or (t_cmp (op_neD hr.units) d_ne (e_b call_len d_len (a_cons (e_v 0) a_nil) T.n_len) e_int) (t_or (t_not (t_val (e_df (ok_is_integer T) hr px (a_cons (e_ix ix_seq d_ix (e_v 0) e_int) a_nil)))) (t_or1 (t_not (t_val (e_df (ok_is_list T) hr px (a_cons (e_ix ix_seq d_ix (e_v 0) e_int) a_nil))))))))) (s_one (s_ret e_bl)) s_nil)
  (s_one (s_ret (e_b (cr_all rfl) d_all (a_cons (e_frz (o_lc (own := [("pair", 1)]) sc_is_sum.nd (i_seq (e_ix ix_seq d_ix (e_v 0) e_int)) (blkOk_by (N := N_is_sum) (sc := defScope s_is_sum) (by decide +kernel)) (fun _ _ _ _ _ => (gk_n (i := 1) sc_is_sum.nd)) (fun _ _ _ _ _ => c_yes) (fun _ _ _ _ _ => (e_df (ok_is_pair_of T) hr passL (a_cons (e_v 1) a_nil))))) a_nil) T.n_all)))))
/-! sum_of -/
abbrev s_sum_of : Stmt := topS 17
abbrev N_sum_of : List Str := ["thing", "unknown", "multiple"]
theorem sc_sum_of : FnScope N_sum_of ["thing"] (defScope s_sum_of) := ⟨rfl, rfl, rfl, by decide +kernel, rfl, by decide +kernel, by decide +kernel⟩
def M_sum_of : MS := (sSeq (sIf (mNot (mCall F_is_sum (aCons (mV 0) aNil))) (sRaise "BadSum" ["thing"] (aCons (mV 0) aNil)) sNil)
  (sSeq (sIf (mCall F_is_integer (aCons (mV 0) aNil)) (sRet (mAgs gTupD (aCons (mV 0) (aCons (mAgs gTupD aNil) aNil)))) sNil)
  (sRet (mCall F_summed (aCons (mOp gIx (mV 0) (mC (.int 0))) (aCons (mFrz (mLc (mSeq (mOp gIx (mV 0) (mC (.int 1)))) (gTup2 2 (gsCons (gN 1) (gsCons (gN 2) gsNil))) mYes (mAgs gTupD (aCons (mAgs (b1 gTupOf) (aCons (mV 1) aNil)) (aCons (mV 2) aNil))) [1, 2])) aNil))))))
def F_sum_of : List D → FR := runF M_sum_of 1 2
theorem ok_sum_of (T : Txt K mg cls) : Df Pr w K mg base 5 "sum_of" (spF K cls F_sum_of) :=
  dfF1 N_sum_of ["thing"] M_sum_of 1 2 4 rfl rfl T.d_sum_of sc_sum_of fun f cdv A outer s H G E hr =>
  (s_cons (s_if (t_not (t_val (e_df (ok_is_sum T) hr px (a_cons (e_v 0) a_nil)))) (s_one (s_raise (takes_of rfl rfl rfl rfl) (ox_BadSum T) hr (a_cons (e_v 0) a_nil))) s_nil)
  (s_cons (s_if (t_val (e_df (ok_is_integer T) hr px (a_cons (e_v 0) a_nil))) (s_one (s_ret (e_tup (a_cons (e_v 0) (a_cons (e_tup a_nil) a_nil))))) s_nil)
  (s_one (s_ret (e_df (ok_summed T) hr px (a_cons (e_ix ix_seq d_ix (e_v 0) e_int) (a_cons (e_frz (o_lc (own := [("unknown", 1), ("multiple", 2)]) sc_sum_of.nd (i_seq (e_ix ix_seq d_ix (e_v 0) e_int)) (blkOk_by (N := N_sum_of) (sc := defScope s_sum_of) (by decide +kernel)) (fun _ _ _ _ _ => (gk_tup (n := 2) (gks_cons (gk_n (i := 1) sc_sum_of.nd) (gks_cons (gk_n (i := 2) sc_sum_of.nd) gks_nil)))) (fun _ _ _ _ _ => c_yes) (fun _ _ _ _ _ => (e_tup (a_cons (e_ty call_tuple_of d_tupOf (a_cons (e_v 1) a_nil) T.n_tuple) (a_cons (e_v 2) a_nil)))))) a_nil)))))))
/-! is_below -/
abbrev s_is_below : Stmt := topS 24
abbrev N_is_below : List Str := ["thing", "most"]
theorem sc_is_below : FnScope N_is_below ["thing", "most"] (defScope s_is_below) := ⟨rfl, rfl, rfl, by decide +kernel, rfl, by decide +kernel, by decide +kernel⟩
def M_is_below : MS := (sRet (mAnd (mCall F_is_integer (aCons (mV 0) aNil)) (mChain iLe iLt (mC (.int 0)) (mV 0) (mV 1))))
def F_is_below : List D → FR := runF M_is_below 2 0
theorem ok_is_below (T : Txt K mg cls) : Df Pr w K mg base 2 "is_below" (spF K cls F_is_below) :=
  dfF1 N_is_below ["thing", "most"] M_is_below 2 0 1 rfl rfl T.d_is_below sc_is_below fun f cdv A outer s H G E hr =>
  (s_one (s_ret (e_and (e_df (ok_is_integer T) hr px (a_cons (e_v 0) a_nil)) (e_one (e_chain op_le op_lt d_le d_lt e_int (e_v 0) (e_v 1))))))
/-! coded -/
abbrev s_coded : Stmt := topS 25
abbrev N_coded : List Str := ["code", "x", "y", "d"]
theorem sc_coded : FnScope N_coded ["code", "x", "y", "d"] (defScope s_coded) := ⟨rfl, rfl, rfl, by decide +kernel, rfl, by decide +kernel, by decide +kernel⟩
def M_coded : MS := (sSeq (sIf (mNot (mCall F_is_below (aCons (mV 0) (aCons (mC c_CODES) aNil)))) (sRaise "BadField" ["name"] (aCons (mC (.str "code")) aNil)) sNil)
  (sSeq (sIf (mNot (mCall F_is_below (aCons (mV 1) (aCons (mC c_FIELDS) aNil)))) (sRaise "BadField" ["name"] (aCons (mC (.str "x")) aNil)) sNil)
  (sSeq (sIf (mNot (mCall F_is_below (aCons (mV 2) (aCons (mC c_FIELDS) aNil)))) (sRaise "BadField" ["name"] (aCons (mC (.str "y")) aNil)) sNil)
  (sSeq (sIf (mNot (mCall F_is_integer (aCons (mV 3) aNil))) (sRaise "BadField" ["name"] (aCons (mC (.str "d")) aNil)) sNil)
  (sRet (mOp iAdd (mOp iAdd (mOp iAdd (mV 0) (mOp iMul (mC c_CODES) (mV 1))) (mOp iMul (mOp iMul (mC c_CODES) (mC c_FIELDS)) (mV 2))) (mOp iMul (mC c_STEP) (mV 3))))))))
def F_coded : List D → FR := runF M_coded 4 0
abbrev dvs_coded : List V := [.int 0, .int 0, .int 0]
abbrev dd_coded : List D := [.int 0, .int 0, .int 0]
theorem dv_coded (G : Hp) : RpL K G dvs_coded dd_coded := (.cons (.int _) (.cons (.int _) (.cons (.int _) .nil)))
theorem ok_coded (T : Txt K mg cls) : DfD Pr w K mg base 3 "coded" s_coded dvs_coded ["code", "x", "y", "d"] (spF K cls F_coded) :=
  dfD1 N_coded ["code", "x", "y", "d"] M_coded 4 0 2 rfl rfl T.d_coded sc_coded fun f cdv A outer s H G E hr =>
  (s_cons (s_if (t_not (t_val (e_df (ok_is_below T) hr px (a_cons (e_v 0) (a_cons (e_g T.g_CODES) a_nil))))) (s_one (s_raise (takes_of rfl rfl rfl rfl) (ox_BadField T) hr (a_cons e_str a_nil))) s_nil)
  (s_cons (s_if (t_not (t_val (e_df (ok_is_below T) hr px (a_cons (e_v 1) (a_cons (e_g T.g_FIELDS) a_nil))))) (s_one (s_raise (takes_of rfl rfl rfl rfl) (ox_BadField T) hr (a_cons e_str a_nil))) s_nil)
  (s_cons (s_if (t_not (t_val (e_df (ok_is_below T) hr px (a_cons (e_v 2) (a_cons (e_g T.g_FIELDS) a_nil))))) (s_one (s_raise (takes_of rfl rfl rfl rfl) (ox_BadField T) hr (a_cons e_str a_nil))) s_nil)
  (s_cons (s_if (t_not (t_val (e_df (ok_is_integer T) hr px (a_cons (e_v 3) a_nil)))) (s_one (s_raise (takes_of rfl rfl rfl rfl) (ox_BadField T) hr (a_cons e_str a_nil))) s_nil)
  (s_one (s_ret (e_op op_add d_add (e_op op_add d_add (e_op op_add d_add (e_v 0) (e_op op_mul d_mul (e_g T.g_CODES) (e_v 1))) (e_op op_mul d_mul (e_op op_mul d_mul (e_g T.g_CODES) (e_g T.g_FIELDS)) (e_v 2))) (e_op op_mul d_mul (e_g T.g_STEP) (e_v 3)))))))))
/-! fields_in -/
abbrev s_fields_in : Stmt := topS 26
abbrev N_fields_in : List Str := ["one", "d", "number", "parts", "unknown", "multiple"]
theorem sc_fields_in : FnScope N_fields_in ["one"] (defScope s_fields_in) := ⟨rfl, rfl, rfl, by decide +kernel, rfl, by decide +kernel, by decide +kernel⟩
def M_fields_in : MS := (sSeq (sAsgT (gTup2 2 (gsCons (gN 2) (gsCons (gN 3) gsNil))) (mV 0))
  (sSeq (sIf (mAgs (b1 gAny) (aCons (mFrz (mLc (mSeq (mV 3)) (gTup2 2 (gsCons (gN 4) (gsCons (gN 5) gsNil))) mYes (mOp gNe (mOp iMod (mV 5) (mC c_STEP)) (mC (.int 0))) [4, 5])) aNil)) (sRet (mC .non)) sNil)
  (sSeq (sAsg 1 (mOp iDiv (mV 2) (mC c_STEP)))
  (sSeq (sIf (mOp gNe (mV 3) (mAgs gTupD aNil)) (sAsg 1 (mAgs gTupD (aCons (mV 1) (aCons (mAgs (b1 gTupOf) (aCons (mFrz (mLc (mSeq (mV 3)) (gTup2 2 (gsCons (gN 4) (gsCons (gN 5) gsNil))) mYes (mAgs gTupD (aCons (mV 4) (aCons (mOp iDiv (mV 5) (mC c_STEP)) aNil))) [4, 5])) aNil)) aNil)))) sNil)
  (sRet (mAgs gTupD (aCons (mOp iMod (mV 2) (mC c_CODES)) (aCons (mOp iMod (mOp iDiv (mV 2) (mC c_CODES)) (mC c_FIELDS)) (aCons (mOp iMod (mOp iDiv (mV 2) (mOp iMul (mC c_CODES) (mC c_FIELDS))) (mC c_FIELDS)) (aCons (mV 1) aNil))))))))))
def F_fields_in : List D → FR := runF M_fields_in 1 5
theorem ok_fields_in (T : Txt K mg cls) : Df Pr w K mg base 1 "fields_in" (spF K cls F_fields_in) :=
  dfF1 N_fields_in ["one"] M_fields_in 1 5 0 rfl rfl T.d_fields_in sc_fields_in fun f cdv A outer s H G E hr =>
  (s_cons (s_asgT (e_v 0) (g_tup (n := 2) (gs_cons (g_n (i := 2) sc_fields_in.nd) (gs_cons (g_n (i := 3) sc_fields_in.nd) gs_nil))))
  (s_cons (s_if (t_val (e_b (cr_any rfl) d_any (a_cons (e_frz (o_lc (own := [("unknown", 4), ("multiple", 5)]) sc_fields_in.nd (i_seq (e_v 3)) (blkOk_by (N := N_fields_in) (sc := defScope s_fields_in) (by decide +kernel)) (fun _ _ _ _ _ => (gk_tup (n := 2) (gks_cons (gk_n (i := 4) sc_fields_in.nd) (gks_cons (gk_n (i := 5) sc_fields_in.nd) gks_nil)))) (fun _ _ _ _ _ => c_yes) (fun _ _ _ _ _ => (e_cmp (op_neD hr.units) d_ne (e_op op_mod d_mod (e_v 5) (e_g T.g_STEP)) e_int)))) a_nil) T.n_any)) (s_one (s_ret e_non)) s_nil)
  (s_cons (s_asg (i := 1) sc_fields_in.nd (e_op op_fdiv d_div (e_v 2) (e_g T.g_STEP)))
  (s_cons (s_if (t_cmp (op_neD hr.units) d_ne (e_v 3) (e_tup a_nil)) (s_one (s_asg (i := 1) sc_fields_in.nd (e_tup (a_cons (e_v 1) (a_cons (e_ty call_tuple_of d_tupOf (a_cons (e_frz (o_lc (own := [("unknown", 4), ("multiple", 5)]) sc_fields_in.nd (i_seq (e_v 3)) (blkOk_by (N := N_fields_in) (sc := defScope s_fields_in) (by decide +kernel)) (fun _ _ _ _ _ => (gk_tup (n := 2) (gks_cons (gk_n (i := 4) sc_fields_in.nd) (gks_cons (gk_n (i := 5) sc_fields_in.nd) gks_nil)))) (fun _ _ _ _ _ => c_yes) (fun _ _ _ _ _ => (e_tup (a_cons (e_v 4) (a_cons (e_op op_fdiv d_div (e_v 5) (e_g T.g_STEP)) a_nil)))))) a_nil) T.n_tuple) a_nil))))) s_nil)
  (s_one (s_ret (e_tup (a_cons (e_op op_mod d_mod (e_v 2) (e_g T.g_CODES)) (a_cons (e_op op_mod d_mod (e_op op_fdiv d_div (e_v 2) (e_g T.g_CODES)) (e_g T.g_FIELDS)) (a_cons (e_op op_mod d_mod (e_op op_fdiv d_div (e_v 2) (e_op op_mul d_mul (e_g T.g_CODES) (e_g T.g_FIELDS))) (e_g T.g_FIELDS)) (a_cons (e_v 1) a_nil)))))))))))
/-! fields -/
abbrev s_fields : Stmt := topS 27
abbrev N_fields : List Str := ["word"]
theorem sc_fields : FnScope N_fields ["word"] (defScope s_fields) := ⟨rfl, rfl, rfl, by decide +kernel, rfl, by decide +kernel, by decide +kernel⟩
def M_fields : MS := (sRet (mCall F_fields_in (aCons (mCall F_sum_of (aCons (mV 0) aNil)) aNil)))
def F_fields : List D → FR := runF M_fields 1 0
theorem ok_fields (T : Txt K mg cls) : Df Pr w K mg base 6 "fields" (spF K cls F_fields) :=
  dfF1 N_fields ["word"] M_fields 1 0 5 rfl rfl T.d_fields sc_fields fun f cdv A outer s H G E hr =>
  (s_one (s_ret (e_df (ok_fields_in T) hr px (a_cons (e_df (ok_sum_of T) hr px (a_cons (e_v 0) a_nil)) a_nil))))
/-! instruction_in -/
abbrev s_instruction_in : Stmt := topS 28
abbrev N_instruction_in : List Str := ["one", "found", "used", "code", "x", "y", "d"]
theorem sc_instruction_in : FnScope N_instruction_in ["one"] (defScope s_instruction_in) := ⟨rfl, rfl, rfl, by decide +kernel, rfl, by decide +kernel, by decide +kernel⟩
def M_instruction_in : MS := (sSeq (sAsg 1 (mCall F_fields_in (aCons (mV 0) aNil)))
  (sSeq (sIf (mOr (mOp gIsN (mV 1) (mC .non)) (mOp iGe (mOp gIx (mV 1) (mC (.int 0))) (mAgs (b1 gLen) (aCons (mC c_CALLED) aNil)))) (sRet (mC .non)) sNil)
  (sSeq (sAsgT (gTup2 4 (gsCons (gN 3) (gsCons (gN 4) (gsCons (gN 5) (gsCons (gN 6) gsNil))))) (mV 1))
  (sSeq (sAsg 2 (mOp gIx (mC c_USED) (mV 3)))
  (sSeq (sIf (mOr (mAnd (mOp sNotIn (mC (.str "x")) (mV 2)) (mOp gNe (mV 4) (mC (.int 0)))) (mOr (mAnd (mOp sNotIn (mC (.str "y")) (mV 2)) (mOp gNe (mV 5) (mC (.int 0)))) (mAnd (mOp sNotIn (mC (.str "d")) (mV 2)) (mOp gNe (mV 6) (mC (.int 0)))))) (sRet (mC .non)) sNil)
  (sRet (mAgs gTupD (aCons (mOp gIx (mC c_CALLED) (mV 3)) (aCons (mV 4) (aCons (mV 5) (aCons (mV 6) aNil)))))))))))
def F_instruction_in : List D → FR := runF M_instruction_in 1 6
theorem ok_instruction_in (T : Txt K mg cls) : Df Pr w K mg base 2 "instruction_in" (spF K cls F_instruction_in) :=
  dfF1 N_instruction_in ["one"] M_instruction_in 1 6 1 rfl rfl T.d_instruction_in sc_instruction_in fun f cdv A outer s H G E hr =>
  (s_cons (s_asg (i := 1) sc_instruction_in.nd (e_df (ok_fields_in T) hr px (a_cons (e_v 0) a_nil)))
  (s_cons (s_if (PW.pt (t_or (t_cmp op_isN d_isN (e_v 1) e_non) (t_or1 (t_cmp op_ge d_ge (e_ix ix_seq d_ix (e_v 1) e_int) (e_b call_len d_len (a_cons (e_g T.g_CALLED) a_nil) T.n_len))))) (s_one (s_ret e_non)) s_nil)
  (s_cons (s_asgT (e_v 1) (g_tup (n := 4) (gs_cons (g_n (i := 3) sc_instruction_in.nd) (gs_cons (g_n (i := 4) sc_instruction_in.nd) (gs_cons (g_n (i := 5) sc_instruction_in.nd) (gs_cons (g_n (i := 6) sc_instruction_in.nd) gs_nil))))))
  (s_cons (s_asg (i := 2) sc_instruction_in.nd (e_ix ix_seq d_ix (e_g T.g_USED) (e_v 3)))
  (s_cons (s_if (PW.pt (t_or (PW.pt (t_and (t_cmp op_notin_str d_notins e_str (e_v 2)) (t_and1 (t_cmp (op_neD hr.units) d_ne (e_v 4) e_int)))) (t_or (PW.pt (t_and (t_cmp op_notin_str d_notins e_str (e_v 2)) (t_and1 (t_cmp (op_neD hr.units) d_ne (e_v 5) e_int)))) (t_or1 (PW.pt (t_and (t_cmp op_notin_str d_notins e_str (e_v 2)) (t_and1 (t_cmp (op_neD hr.units) d_ne (e_v 6) e_int)))))))) (s_one (s_ret e_non)) s_nil)
  (s_one (s_ret (e_tup (a_cons (e_ix ix_seq d_ix (e_g T.g_CALLED) (e_v 3)) (a_cons (e_v 4) (a_cons (e_v 5) (a_cons (e_v 6) a_nil))))))))))))
/-! instruction -/
abbrev s_instruction : Stmt := topS 29
abbrev N_instruction : List Str := ["word"]
theorem sc_instruction : FnScope N_instruction ["word"] (defScope s_instruction) := ⟨rfl, rfl, rfl, by decide +kernel, rfl, by decide +kernel, by decide +kernel⟩
def M_instruction : MS := (sRet (mCall F_instruction_in (aCons (mCall F_sum_of (aCons (mV 0) aNil)) aNil)))
def F_instruction : List D → FR := runF M_instruction 1 0
theorem ok_instruction (T : Txt K mg cls) : Df Pr w K mg base 6 "instruction" (spF K cls F_instruction) :=
  dfF1 N_instruction ["word"] M_instruction 1 0 5 rfl rfl T.d_instruction sc_instruction fun f cdv A outer s H G E hr =>
  (s_one (s_ret (e_df (ok_instruction_in T) hr px (a_cons (e_df (ok_sum_of T) hr px (a_cons (e_v 0) a_nil)) a_nil))))
/-! _law_cell -/
abbrev s_law_cell : Stmt := topS 31
abbrev N_law_cell : List Str := ["_law_script", "_law_k"]
theorem sc_law_cell : FnScope N_law_cell ["_law_script", "_law_k"] (defScope s_law_cell) := ⟨rfl, rfl, rfl, by decide +kernel, rfl, by decide +kernel, by decide +kernel⟩
def M_law_cell : MS := (sSeq (sIf (mOp iLt (mV 1) (mAgs (b1 gLen) (aCons (mV 0) aNil))) (sRet (mOp gIx (mV 0) (mV 1))) sNil)
  (sRet (mC (.int 0))))
def F_law_cell : List D → FR := runF M_law_cell 2 0
theorem ok_law_cell (T : Txt K mg cls) : Df Pr w K mg base 1 "_law_cell" (spF K cls F_law_cell) :=
  dfF1 N_law_cell ["_law_script", "_law_k"] M_law_cell 2 0 0 rfl rfl T.d_law_cell sc_law_cell fun f cdv A outer s H G E hr =>
  (s_cons (s_if (t_cmp op_lt d_lt (e_v 1) (e_b call_len d_len (a_cons (e_v 0) a_nil) T.n_len)) (s_one (s_ret (e_ix ix_seq d_ix (e_v 0) (e_v 1)))) s_nil)
  (s_one (s_ret e_int)))
/-! _law_pool -/
abbrev s_law_pool : Stmt := topS 32
abbrev N_law_pool : List Str := ["_law_cell_here", "_law_folded"]
theorem sc_law_pool : FnScope N_law_pool ["_law_cell_here"] (defScope s_law_pool) := ⟨rfl, rfl, rfl, by decide +kernel, rfl, by decide +kernel, by decide +kernel⟩
def M_law_pool : MS := (sSeq (sAsg 1 (mOp iMul (mC (.int 2)) (mV 0)))
  (sSeq (sIf (mOp iLt (mV 0) (mC (.int 0))) (sAsg 1 (mOp iSub (mOp iSub (mC (.int 0)) (mOp iMul (mC (.int 2)) (mV 0))) (mC (.int 1)))) sNil)
  (sSeq (sIf (mOp iGe (mV 1) (mOp iPow (mC (.int 10)) (mC (.int 18)))) (sRetO (mShort (aCons (mV 1) (aCons (mOp iMod (mAgs (b1 gInt) (aCons (mV 1) aNil)) (mC (.int 1000000007))) (aCons (mC (.int 0)) aNil))))) sNil)
  (sRetO (mShort (aCons (mC (.int 0)) (aCons (mOp iMod (mAgs (b1 gInt) (aCons (mV 1) aNil)) (mC (.int 1000000007))) (aCons (mC (.int 0)) aNil))))))))
def F_law_pool : List D → FR := runF M_law_pool 1 1
theorem ok_law_pool (T : Txt K mg cls) : Df Pr w K mg base 1 "_law_pool" (spF K cls F_law_pool) :=
  dfF1 N_law_pool ["_law_cell_here"] M_law_pool 1 1 0 rfl rfl T.d_law_pool sc_law_pool fun f cdv A outer s H G E hr =>
  (s_cons (s_asg (i := 1) sc_law_pool.nd (e_op op_mul d_mul e_int (e_v 0)))
  (s_cons (s_if (t_cmp op_lt d_lt (e_v 0) e_int) (s_one (s_asg (i := 1) sc_law_pool.nd (e_op op_sub d_sub (e_op op_sub d_sub e_int (e_op op_mul d_mul e_int (e_v 0))) e_int))) s_nil)
  (s_cons (s_if (t_cmp op_ge d_ge (e_v 1) (e_op op_pow d_pow e_int e_int)) (s_one (s_retO (o_lst (a_cons (e_v 1) (a_cons (e_op op_mod d_mod (e_ty call_int1 d_int (a_cons (e_v 1) a_nil) T.n_int) e_int) (a_cons e_int a_nil)))))) s_nil)
  (s_one (s_retO (o_lst (a_cons e_int (a_cons (e_op op_mod d_mod (e_ty call_int1 d_int (a_cons (e_v 1) a_nil) T.n_int) e_int) (a_cons e_int a_nil)))))))))
/-! _law_take -/
abbrev s_law_take : Stmt := topS 33
abbrev N_law_take : List Str := ["_law_pool_here", "_law_many", "_law_mixed", "_law_draw"]
theorem sc_law_take : FnScope N_law_take ["_law_pool_here", "_law_many"] (defScope s_law_take) := ⟨rfl, rfl, rfl, by decide +kernel, rfl, by decide +kernel, by decide +kernel⟩
def M_law_take : MS := (sSeq (sIf (mOp iGt (mIxO 0 (mC (.int 0))) (mC (.int 0))) (sSeq (sAsg 3 (mOp iMod (mAgs (b1 gInt) (aCons (mIxO 0 (mC (.int 0))) aNil)) (mV 1)))
  (sSeq (sSetI 0 (mC (.int 0)) (mOp iDiv (mIxO 0 (mC (.int 0))) (mV 1)))
  (sRet (mV 3)))) sNil)
  (sSeq (sSetI 0 (mC (.int 2)) (mOp iAdd (mIxO 0 (mC (.int 2))) (mC (.int 1))))
  (sSeq (sAsg 2 (mOp iMod (mAgs (b1 gInt) (aCons (mOp iPow (mOp iAdd (mOp iAdd (mIxO 0 (mC (.int 1))) (mOp iMul (mC (.int 7919)) (mIxO 0 (mC (.int 2))))) (mC (.int 104729))) (mC (.int 5))) aNil)) (mC (.int 2147483647))))
  (sRet (mOp iMod (mOp iMod (mAgs (b1 gInt) (aCons (mOp iMul (mOp iAdd (mV 2) (mIxO 0 (mC (.int 2)))) (mC (.int 40692))) aNil)) (mC (.int 2147483629))) (mV 1))))))
def F_law_take : List D → List D → QR := runQ M_law_take 2 2
theorem ok_law_take (T : Txt K mg cls) : Df Pr w K mg base 1 "_law_take" (spQ K F_law_take) :=
  dfQ1 (cls := cls) N_law_take ["_law_pool_here", "_law_many"] M_law_take 2 2 0 rfl rfl T.d_law_take sc_law_take fun f cdv A outer s H G E a hr =>
  (s_cons (s_if (t_cmp op_gt d_gt (e_ixO (i := 0) e_int) e_int) (s_cons (s_asg (i := 3) sc_law_take.nd (e_op op_mod d_mod (e_ty call_int1 d_int (a_cons (e_ixO (i := 0) e_int) a_nil) T.n_int) (e_v 1)))
  (s_cons (s_setI (i := 0) (e_op op_fdiv d_div (e_ixO (i := 0) e_int) (e_v 1)) e_int)
  (s_one (s_ret (e_v 3))))) s_nil)
  (s_cons (s_setI (i := 0) (e_op op_add d_add (e_ixO (i := 0) e_int) e_int) e_int)
  (s_cons (s_asg (i := 2) sc_law_take.nd (e_op op_mod d_mod (e_ty call_int1 d_int (a_cons (e_op op_pow d_pow (e_op op_add d_add (e_op op_add d_add (e_ixO (i := 0) e_int) (e_op op_mul d_mul e_int (e_ixO (i := 0) e_int))) e_int) e_int) a_nil) T.n_int) e_int))
  (s_one (s_ret (e_op op_mod d_mod (e_op op_mod d_mod (e_ty call_int1 d_int (a_cons (e_op op_mul d_mul (e_op op_add d_add (e_v 2) (e_ixO (i := 0) e_int)) e_int) a_nil) T.n_int) e_int) (e_v 1)))))))
/-! _law_one -/
abbrev s_law_one : Stmt := topS 34
abbrev N_law_one : List Str := ["_law_pool_here", "_law_things"]
theorem sc_law_one : FnScope N_law_one ["_law_pool_here", "_law_things"] (defScope s_law_one) := ⟨rfl, rfl, rfl, by decide +kernel, rfl, by decide +kernel, by decide +kernel⟩
def M_law_one : MS := (sRet (mOp gIx (mV 1) (mCallP 0 F_law_take (aCons (mAgs (b1 gLen) (aCons (mV 1) aNil)) aNil))))
def F_law_one : List D → List D → QR := runQ M_law_one 2 0
theorem ok_law_one (T : Txt K mg cls) : Df Pr w K mg base 2 "_law_one" (spQ K F_law_one) :=
  dfQ1 (cls := cls) N_law_one ["_law_pool_here", "_law_things"] M_law_one 2 0 1 rfl rfl T.d_law_one sc_law_one fun f cdv A outer s H G E a hr =>
  (s_one (s_ret (e_ix ix_seq d_ix (e_v 1) (e_dp (i := 0) (ok_law_take T) hr px (a_cons (e_b call_len d_len (a_cons (e_v 1) a_nil) T.n_len) a_nil)))))
/-! _law_row -/
abbrev s_law_row : Stmt := topS 35
abbrev N_law_row : List Str := ["_law_word", "_law_names", "_law_used", "_law_far", "_law_number", "_law_parts", "_law_code", "_law_x", "_law_y", "_law_d", "_law_unknown", "_law_many"]
theorem sc_law_row : FnScope N_law_row ["_law_word"] (defScope s_law_row) := ⟨rfl, rfl, rfl, by decide +kernel, rfl, by decide +kernel, by decide +kernel⟩
def M_law_row : MS := (sSeq (sAsg 1 (mAgs gLstD (aCons (mC (.str "stop")) (aCons (mC (.str "take")) (aCons (mC (.str "tell")) (aCons (mC (.str "ask")) (aCons (mC (.str "askfar")) (aCons (mC (.str "go")) (aCons (mC (.str "gofar")) (aCons (mC (.str "set")) (aCons (mC (.str "here")) (aCons (mC (.str "copy")) (aCons (mC (.str "add")) (aCons (mC (.str "less")) (aCons (mC (.str "load")) aNil)))))))))))))))
  (sSeq (sAsg 1 (mOp lAdd (mV 1) (mAgs gLstD (aCons (mC (.str "store")) (aCons (mC (.str "call")) (aCons (mC (.str "callfar")) (aCons (mC (.str "jump")) aNil)))))))
  (sSeq (sAsg 2 (mAgs gLstD (aCons (mC (.str "")) (aCons (mC (.str "x")) (aCons (mC (.str "x")) (aCons (mC (.str "d")) (aCons (mC (.str "")) (aCons (mC (.str "d")) (aCons (mC (.str "")) (aCons (mC (.str "x")) (aCons (mC (.str "xd")) (aCons (mC (.str "xy")) (aCons (mC (.str "xy")) (aCons (mC (.str "xy")) (aCons (mC (.str "xyd")) (aCons (mC (.str "xyd")) (aCons (mC (.str "d")) (aCons (mC (.str "")) (aCons (mC (.str "x")) aNil)))))))))))))))))))
  (sSeq (sAsgT (gTup2 2 (gsCons (gN 4) (gsCons (gN 5) gsNil))) (mV 0))
  (sSeq (sIf (mOr (mAgs (b1 gAny) (aCons (mFrz (mLc (mSeq (mV 5)) (gTup2 2 (gsCons (gN 10) (gsCons (gN 11) gsNil))) mYes (mOp gNe (mOp iMod (mV 11) (mC (.int 2048))) (mC (.int 0))) [10, 11])) aNil)) (mOp iGt (mOp iMod (mV 4) (mC (.int 32))) (mC (.int 16)))) (sRet (mC .non)) sNil)
  (sSeq (sAsgT (gTup2 4 (gsCons (gN 6) (gsCons (gN 7) (gsCons (gN 8) (gsCons (gN 9) gsNil))))) (mAgs gTupD (aCons (mOp iMod (mV 4) (mC (.int 32))) (aCons (mOp iMod (mOp iDiv (mV 4) (mC (.int 32))) (mC (.int 8))) (aCons (mOp iMod (mOp iDiv (mV 4) (mC (.int 256))) (mC (.int 8))) (aCons (mOp iDiv (mV 4) (mC (.int 2048))) aNil))))))
  (sSeq (sAsg 3 (mAgs (b1 gTupOf) (aCons (mFrz (mLc (mSeq (mV 5)) (gTup2 2 (gsCons (gN 10) (gsCons (gN 11) gsNil))) mYes (mAgs gTupD (aCons (mV 10) (aCons (mOp iDiv (mV 11) (mC (.int 2048))) aNil))) [10, 11])) aNil)))
  (sSeq (sIf (mOr (mAnd (mOp sNotIn (mC (.str "x")) (mOp gIx (mV 2) (mV 6))) (mOp gNe (mV 7) (mC (.int 0)))) (mAnd (mOp sNotIn (mC (.str "y")) (mOp gIx (mV 2) (mV 6))) (mOp gNe (mV 8) (mC (.int 0))))) (sRet (mC .non)) sNil)
  (sSeq (sIf (mAnd (mOp sNotIn (mC (.str "d")) (mOp gIx (mV 2) (mV 6))) (mOr (mOp gNe (mV 9) (mC (.int 0))) (mOp gNe (mV 3) (mAgs gTupD aNil)))) (sRet (mC .non)) sNil)
  (sRet (mAgs gTupD (aCons (mOp gIx (mV 1) (mV 6)) (aCons (mV 7) (aCons (mV 8) (aCons (mAgs gTupD (aCons (mV 9) (aCons (mV 3) aNil))) aNil)))))))))))))))
def F_law_row : List D → FR := runF M_law_row 1 11
theorem ok_law_row (T : Txt K mg cls) : Df Pr w K mg base 1 "_law_row" (spF K cls F_law_row) :=
  dfF1 N_law_row ["_law_word"] M_law_row 1 11 0 rfl rfl T.d_law_row sc_law_row fun f cdv A outer s H G E hr =>
  (s_cons (s_asg (i := 1) sc_law_row.nd (e_lst (a_cons e_str (a_cons e_str (a_cons e_str (a_cons e_str (a_cons e_str (a_cons e_str (a_cons e_str (a_cons e_str (a_cons e_str (a_cons e_str (a_cons e_str (a_cons e_str (a_cons e_str a_nil)))))))))))))))
  (s_cons (s_asg (i := 1) sc_law_row.nd (e_op op_cat d_cat (e_v 1) (e_lst (a_cons e_str (a_cons e_str (a_cons e_str (a_cons e_str a_nil)))))))
  (s_cons (s_asg (i := 2) sc_law_row.nd (e_lst (a_cons e_str (a_cons e_str (a_cons e_str (a_cons e_str (a_cons e_str (a_cons e_str (a_cons e_str (a_cons e_str (a_cons e_str (a_cons e_str (a_cons e_str (a_cons e_str (a_cons e_str (a_cons e_str (a_cons e_str (a_cons e_str (a_cons e_str a_nil)))))))))))))))))))
  (s_cons (s_asgT (e_v 0) (g_tup (n := 2) (gs_cons (g_n (i := 4) sc_law_row.nd) (gs_cons (g_n (i := 5) sc_law_row.nd) gs_nil))))
  (s_cons (s_if (PW.pt (t_or (t_val (e_b (cr_any rfl) d_any (a_cons (e_frz (o_lc (own := [("_law_unknown", 10), ("_law_many", 11)]) sc_law_row.nd (i_seq (e_v 5)) (blkOk_by (N := N_law_row) (sc := defScope s_law_row) (by decide +kernel)) (fun _ _ _ _ _ => (gk_tup (n := 2) (gks_cons (gk_n (i := 10) sc_law_row.nd) (gks_cons (gk_n (i := 11) sc_law_row.nd) gks_nil)))) (fun _ _ _ _ _ => c_yes) (fun _ _ _ _ _ => (e_cmp (op_neD hr.units) d_ne (e_op op_mod d_mod (e_v 11) e_int) e_int)))) a_nil) T.n_any)) (t_or1 (t_cmp op_gt d_gt (e_op op_mod d_mod (e_v 4) e_int) e_int)))) (s_one (s_ret e_non)) s_nil)
  (s_cons (s_asgT (e_tup (a_cons (e_op op_mod d_mod (e_v 4) e_int) (a_cons (e_op op_mod d_mod (e_op op_fdiv d_div (e_v 4) e_int) e_int) (a_cons (e_op op_mod d_mod (e_op op_fdiv d_div (e_v 4) e_int) e_int) (a_cons (e_op op_fdiv d_div (e_v 4) e_int) a_nil))))) (g_tup (n := 4) (gs_cons (g_n (i := 6) sc_law_row.nd) (gs_cons (g_n (i := 7) sc_law_row.nd) (gs_cons (g_n (i := 8) sc_law_row.nd) (gs_cons (g_n (i := 9) sc_law_row.nd) gs_nil))))))
  (s_cons (s_asg (i := 3) sc_law_row.nd (e_ty call_tuple_of d_tupOf (a_cons (e_frz (o_lc (own := [("_law_unknown", 10), ("_law_many", 11)]) sc_law_row.nd (i_seq (e_v 5)) (blkOk_by (N := N_law_row) (sc := defScope s_law_row) (by decide +kernel)) (fun _ _ _ _ _ => (gk_tup (n := 2) (gks_cons (gk_n (i := 10) sc_law_row.nd) (gks_cons (gk_n (i := 11) sc_law_row.nd) gks_nil)))) (fun _ _ _ _ _ => c_yes) (fun _ _ _ _ _ => (e_tup (a_cons (e_v 10) (a_cons (e_op op_fdiv d_div (e_v 11) e_int) a_nil)))))) a_nil) T.n_tuple))
  (s_cons (s_if (PW.pt (t_or (PW.pt (t_and (t_cmp op_notin_str d_notins e_str (e_ix ix_seq d_ix (e_v 2) (e_v 6))) (t_and1 (t_cmp (op_neD hr.units) d_ne (e_v 7) e_int)))) (t_or1 (PW.pt (t_and (t_cmp op_notin_str d_notins e_str (e_ix ix_seq d_ix (e_v 2) (e_v 6))) (t_and1 (t_cmp (op_neD hr.units) d_ne (e_v 8) e_int))))))) (s_one (s_ret e_non)) s_nil)
  (s_cons (s_if (PW.pt (t_and (t_cmp op_notin_str d_notins e_str (e_ix ix_seq d_ix (e_v 2) (e_v 6))) (t_and1 (PW.pt (t_or (t_cmp (op_neD hr.units) d_ne (e_v 9) e_int) (t_or1 (t_cmp (op_neD hr.units) d_ne (e_v 3) (e_tup a_nil)))))))) (s_one (s_ret e_non)) s_nil)
  (s_one (s_ret (e_tup (a_cons (e_ix ix_seq d_ix (e_v 1) (e_v 6)) (a_cons (e_v 7) (a_cons (e_v 8) (a_cons (e_tup (a_cons (e_v 9) (a_cons (e_v 3) a_nil))) a_nil))))))))))))))))
/-! _law_key -/
abbrev s_law_key : Stmt := topS 36
abbrev N_law_key : List Str := ["_law_unknown"]
theorem sc_law_key : FnScope N_law_key ["_law_unknown"] (defScope s_law_key) := ⟨rfl, rfl, rfl, by decide +kernel, rfl, by decide +kernel, by decide +kernel⟩
def M_law_key : MS := (sRet (mAgs gTupD (aCons (mOp gLIndex (noX (mAgs gLstD (aCons (mC (.str "piece")) (aCons (mC (.str "name")) (aCons (mC (.str "in")) aNil))))) (noX (mOp gIx (mV 0) (mC (.int 0))))) (aCons (mOp gIx (mV 0) (mC (.int 1))) aNil))))
def F_law_key : List D → FR := runF M_law_key 1 0
theorem ok_law_key (T : Txt K mg cls) : Df Pr w K mg base 1 "_law_key" (spF K cls F_law_key) :=
  dfF1 N_law_key ["_law_unknown"] M_law_key 1 0 0 rfl rfl T.d_law_key sc_law_key fun f cdv A outer s H G E hr =>
  (s_one (s_ret (e_tup (a_cons (e_bm PySem.F.plainAttrs_list PySem.F.slot_list_index PySem.F.type_list_index (mt_indexD (u65 hr)) d_lindex (fun _ _ _ _ e h hx => ty_lst e h hx) (e_lst (a_cons e_str (a_cons e_str (a_cons e_str a_nil)))) (e_ix ix_seq d_ix (e_v 0) e_int)) (a_cons (e_ix ix_seq d_ix (e_v 0) e_int) a_nil)))))
/-! _law_total -/
abbrev s_law_total : Stmt := topS 37
def M_law_total_b1 : MS := (sDPut 2 (mV 4) (mOp iAdd (mDGet2 2 (mV 4) (mC (.int 0))) (mV 5)))
abbrev N_law_total : List Str := ["_law_number", "_law_pairs", "_law_found", "_law_order", "_law_unknown", "_law_many", "_law_key_here"]
theorem sc_law_total : FnScope N_law_total ["_law_number", "_law_pairs"] (defScope s_law_total) := ⟨rfl, rfl, rfl, by decide +kernel, rfl, by decide +kernel, by decide +kernel⟩
def M_law_total : MS := (sSeq (sNewDT 2)
  (sSeq (sFor (mSeq (mV 1)) (gTup2 2 (gsCons (gN 4) (gsCons (gN 5) gsNil))) M_law_total_b1)
  (sSeq (sFrzD 2 (sAsg 3 (mAgs (b1 gSort) (aCons (mFrz (mLc (mKeys (mV 2)) (gN 4) (mOp gNe (mOp gDIx (mV 2) (mV 4)) (mC (.int 0))) (mAgs gTupD (aCons (mCall F_law_key (aCons (mV 4) aNil)) (aCons (mV 4) aNil))) [4])) aNil))))
  (sRet (mAgs gTupD (aCons (mV 0) (aCons (mAgs (b1 gTupOf) (aCons (mFrz (mLc (mSeq (mV 3)) (gTup2 2 (gsCons (gN 6) (gsCons (gN 4) gsNil))) mYes (mAgs gTupD (aCons (mV 4) (aCons (mOp gDIx (mV 2) (mV 4)) aNil))) [6, 4])) aNil)) aNil)))))))
def F_law_total : List D → FR := runF M_law_total 2 5
theorem ok_law_total (T : Txt K mg cls) : Df Pr w K mg base 2 "_law_total" (spF K cls F_law_total) :=
  dfF1 N_law_total ["_law_number", "_law_pairs"] M_law_total 2 5 1 rfl rfl T.d_law_total sc_law_total fun f cdv A outer s H G E hr =>
  (s_cons (s_newDT (i := 2) sc_law_total.nd)
  (s_cons (s_for po (i_seq (e_v 1)) (g_tup (n := 2) (gs_cons (g_n (i := 4) sc_law_total.nd) (gs_cons (g_n (i := 5) sc_law_total.nd) gs_nil))) (s_one (s_dput (i := 2) (u1 hr) (e_v 4) (e_op op_add d_add (e_dget2 (i := 2) (u1 hr) (e_v 4) e_int) (e_v 5)))))
  (s_cons (s_frzd 2 (s_asg (i := 3) sc_law_total.nd (e_b (cr_sortD (u65 hr)) d_sort (a_cons (e_frz (o_lc (own := [("_law_unknown", 4)]) sc_law_total.nd (i_keys (e_v 2)) (blkOk_by (N := N_law_total) (sc := defScope s_law_total) (by decide +kernel)) (fun _ _ _ _ _ => (gk_n (i := 4) sc_law_total.nd)) (fun _ _ _ _ _ => (c_one (t_cmp (op_neD hr.units) d_ne (e_dix (u1 hr) (e_v 2) (e_v 4)) e_int))) (fun _ _ _ _ _ => (e_tup (a_cons (e_df (ok_law_key T) hr passL (a_cons (e_v 4) a_nil)) (a_cons (e_v 4) a_nil)))))) a_nil) T.n_sorted)))
  (s_one (s_ret (e_tup (a_cons (e_v 0) (a_cons (e_ty call_tuple_of d_tupOf (a_cons (e_frz (o_lc (own := [("_law_key_here", 6), ("_law_unknown", 4)]) sc_law_total.nd (i_seq (e_v 3)) (blkOk_by (N := N_law_total) (sc := defScope s_law_total) (by decide +kernel)) (fun _ _ _ _ _ => (gk_tup (n := 2) (gks_cons (gk_n (i := 6) sc_law_total.nd) (gks_cons (gk_n (i := 4) sc_law_total.nd) gks_nil)))) (fun _ _ _ _ _ => c_yes) (fun _ _ _ _ _ => (e_tup (a_cons (e_v 4) (a_cons (e_dix (u1 hr) (e_v 2) (e_v 4)) a_nil)))))) a_nil) T.n_tuple) a_nil))))))))
/-! _law_met -/
abbrev s_law_met : Stmt := topS 38
abbrev N_law_met : List Str := ["_law_ask", "e"]
theorem sc_law_met : FnScope N_law_met ["_law_ask"] (defScope s_law_met) := ⟨rfl, rfl, rfl, by decide +kernel, rfl, by decide +kernel, by decide +kernel⟩
def cl_law_met : Cls := [("BadField", "field", ["name"]), ("BadSum", "sum", ["thing"])]
theorem ok_law_met (T : Txt K mg cls) : MetD K mg cls "_law_met" excs "told" cl_law_met := by
  obtain ⟨g, fd, F, m, b⟩ := T.d_law_met.ex
  refine ⟨⟨s_law_met, "_law_ask", N_law_met, g, fd, F, m, b, sc_law_met, rfl, Or.inl rfl, by decide, by decide, fun X cdv q hK hm => ?_⟩, T.exm_law_met⟩
  subst hK hm
  exact met_gives (i := 1) (n := "e") (l := cl_law_met) sc_law_met.nd rfl rfl (by decide) (by decide) (.cons (.cons .nil) (.cons (.cons .nil) .nil)) T.clo_law_met (fun _ => rfl)
/-! _law_first_bad -/
abbrev s_law_first_bad : Stmt := topS 39
abbrev N_law_first_bad : List Str := ["_law_code", "_law_x", "_law_y", "_law_d"]
theorem sc_law_first_bad : FnScope N_law_first_bad ["_law_code", "_law_x", "_law_y", "_law_d"] (defScope s_law_first_bad) := ⟨rfl, rfl, rfl, by decide +kernel, rfl, by decide +kernel, by decide +kernel⟩
def M_law_first_bad : MS := (sSeq (sIf (mOr (mNot (mUn (gIsi .int) (mV 0))) (mOr (mUn (gIsi .bool) (mV 0)) (mNot (mChain iLe iLt (mC (.int 0)) (mV 0) (mC (.int 32)))))) (sRet (mC (.str "code"))) sNil)
  (sSeq (sIf (mOr (mNot (mUn (gIsi .int) (mV 1))) (mOr (mUn (gIsi .bool) (mV 1)) (mNot (mChain iLe iLt (mC (.int 0)) (mV 1) (mC (.int 8)))))) (sRet (mC (.str "x"))) sNil)
  (sSeq (sIf (mOr (mNot (mUn (gIsi .int) (mV 2))) (mOr (mUn (gIsi .bool) (mV 2)) (mNot (mChain iLe iLt (mC (.int 0)) (mV 2) (mC (.int 8)))))) (sRet (mC (.str "y"))) sNil)
  (sRet (mIf (mAnd (mUn (gIsi .int) (mV 3)) (mNot (mUn (gIsi .bool) (mV 3)))) (mC .non) (mC (.str "d")))))))
def F_law_first_bad : List D → FR := runF M_law_first_bad 4 0
theorem ok_law_first_bad (T : Txt K mg cls) : Df Pr w K mg base 1 "_law_first_bad" (spF K cls F_law_first_bad) :=
  dfF1 N_law_first_bad ["_law_code", "_law_x", "_law_y", "_law_d"] M_law_first_bad 4 0 0 rfl rfl T.d_law_first_bad sc_law_first_bad fun f cdv A outer s H G E hr =>
  (s_cons (s_if (PW.pt (t_or (t_not (t_val (e_isi .int (e_v 0) T.n_isinstance T.n_int))) (t_or (t_val (e_isi .bool (e_v 0) T.n_isinstance T.n_bool)) (t_or1 (t_not (t_chain op_le op_lt d_le d_lt e_int (e_v 0) e_int)))))) (s_one (s_ret e_str)) s_nil)
  (s_cons (s_if (PW.pt (t_or (t_not (t_val (e_isi .int (e_v 1) T.n_isinstance T.n_int))) (t_or (t_val (e_isi .bool (e_v 1) T.n_isinstance T.n_bool)) (t_or1 (t_not (t_chain op_le op_lt d_le d_lt e_int (e_v 1) e_int)))))) (s_one (s_ret e_str)) s_nil)
  (s_cons (s_if (PW.pt (t_or (t_not (t_val (e_isi .int (e_v 2) T.n_isinstance T.n_int))) (t_or (t_val (e_isi .bool (e_v 2) T.n_isinstance T.n_bool)) (t_or1 (t_not (t_chain op_le op_lt d_le d_lt e_int (e_v 2) e_int)))))) (s_one (s_ret e_str)) s_nil)
  (s_one (s_ret (e_if (PW.pt (t_and (t_val (e_isi .int (e_v 3) T.n_isinstance T.n_int)) (t_and1 (t_not (t_val (e_isi .bool (e_v 3) T.n_isinstance T.n_bool)))))) e_non e_str))))))
/-! _law_told -/
abbrev s_law_told : Stmt := topS 40
abbrev N_law_told : List Str := ["_law_found", "_law_name", "_law_x", "_law_y", "_law_d"]
theorem sc_law_told : FnScope N_law_told ["_law_found"] (defScope s_law_told) := ⟨rfl, rfl, rfl, by decide +kernel, rfl, by decide +kernel, by decide +kernel⟩
def M_law_told : MS := (sSeq (sIf (mOp gIsN (mV 0) (mC .non)) (sRet (mC .non)) sNil)
  (sSeq (sAsgT (gTup2 4 (gsCons (gN 1) (gsCons (gN 2) (gsCons (gN 3) (gsCons (gN 4) gsNil))))) (mV 0))
  (sRet (mAgs gTupD (aCons (mV 1) (aCons (mV 2) (aCons (mV 3) (aCons (mIf (mOp gEq (mOp gIx (mV 4) (mC (.int 1))) (mAgs gTupD aNil)) (mOp gIx (mV 4) (mC (.int 0))) (mV 4)) aNil))))))))
def F_law_told : List D → FR := runF M_law_told 1 4
theorem ok_law_told (T : Txt K mg cls) : Df Pr w K mg base 1 "_law_told" (spF K cls F_law_told) :=
  dfF1 N_law_told ["_law_found"] M_law_told 1 4 0 rfl rfl T.d_law_told sc_law_told fun f cdv A outer s H G E hr =>
  (s_cons (s_if (t_cmp op_isN d_isN (e_v 0) e_non) (s_one (s_ret e_non)) s_nil)
  (s_cons (s_asgT (e_v 0) (g_tup (n := 4) (gs_cons (g_n (i := 1) sc_law_told.nd) (gs_cons (g_n (i := 2) sc_law_told.nd) (gs_cons (g_n (i := 3) sc_law_told.nd) (gs_cons (g_n (i := 4) sc_law_told.nd) gs_nil))))))
  (s_one (s_ret (e_tup (a_cons (e_v 1) (a_cons (e_v 2) (a_cons (e_v 3) (a_cons (e_if (t_cmp (op_eqD hr.units) d_eq (e_ix ix_seq d_ix (e_v 4) e_int) (e_tup a_nil)) (e_ix ix_seq d_ix (e_v 4) e_int) (e_v 4)) a_nil)))))))))
/-! _law_met_two -/
abbrev s_law_met_two : Stmt := topS 41
abbrev N_law_met_two : List Str := ["_law_odd"]
theorem sc_law_met_two : FnScope N_law_met_two ["_law_odd"] (defScope s_law_met_two) := ⟨rfl, rfl, rfl, by decide +kernel, rfl, by decide +kernel, by decide +kernel⟩
def M_law_met_two : MS := (sRet (mMet excs "told" cl_law_met (mCall F_instruction (aCons (mV 0) aNil))))
def F_law_met_two : List D → FR := runF M_law_met_two 1 0
theorem body_law_met_two (T : Txt K mg cls) (B : TxtB K base mg tb) : ∀ (f : Addr) (A : Around) (outer : List Env) (s : Shared) (H G : Hp) (E : XK), Room 8 (A.deeper (envOfC "_law_met_two" (defScope s_law_met_two) s.heap.objs.size f (.ref (tb "_law_met_two").1))) →
    PSs (cxOf (L2.CX Pr w) Pr w K mg base N_law_met_two "_law_met_two" (defScope s_law_met_two) f (.ref (tb "_law_met_two").1) A outer s H E) (defBody s_law_met_two) (tS (fcT K cls (tabL tb) G H) E M_law_met_two) := fun f A outer s H G E hr =>
  (s_one (s_ret (e_met (k := 6) (ok_law_met T) B.tb_law_met_two rfl (mem_law_met_two tb) (fun p hp he => B.uq _ _ p hp he (mem_law_met_two tb)) hr (fun G0 H0 A outer s H E f c1 hr2 => (e_df (ok_instruction T) hr2 pxL1 (a_cons (e_v 0) a_nil))) (show LamX.LamS (defScope s_law_met_two) _ from LamX.lamS_by (by decide +kernel)))))
theorem ok_law_met_two (T : Txt K mg cls) (B : TxtB K base mg tb) : Df Pr w K mg base 9 "_law_met_two" (spT K cls (tabL tb) F_law_met_two) :=
  dfT1 N_law_met_two ["_law_odd"] M_law_met_two 1 0 8 rfl rfl B.d_law_met_two sc_law_met_two (body_law_met_two T B)
theorem bk_0 : ∀ f fd, FunD K "coded" "coded" (defArgs s_coded) (defBody s_coded) (defScope s_coded) dvs_coded [] f fd → ∃ its, KBn K fd ["code", "x", "y", "d"] 4 [] (fun us ws => pick [.p 0, .p 1, .p 2, .p 3] us its ws) (fun vs zs => pick [.p 0, .p 1, .p 2, .p 3] vs dvs_coded zs) := fun f fd F => bindK F (by simp) fun T kV doc pm an cdv ct us its ws h1 h2 h3 => by
  match us, its, ws, h1, h2, h3 with
  | [u0, u1, u2, u3], [i0, i1, i2], [], _, _, _ => exact ⟨_, rfl, rfl⟩
theorem bk_1 : ∀ f fd, FunD K "coded" "coded" (defArgs s_coded) (defBody s_coded) (defScope s_coded) dvs_coded [] f fd → ∃ its, KBn K fd ["code", "x", "y", "d"] 1 [] (fun us ws => pick [.p 0, .d 0, .d 1, .d 2] us its ws) (fun vs zs => pick [.p 0, .d 0, .d 1, .d 2] vs dvs_coded zs) := fun f fd F => bindK F (by simp) fun T kV doc pm an cdv ct us its ws h1 h2 h3 => by
  match us, its, ws, h1, h2, h3 with
  | [u0], [i0, i1, i2], [], _, _, _ => exact ⟨_, rfl, rfl⟩
theorem bk_2 : ∀ f fd, FunD K "coded" "coded" (defArgs s_coded) (defBody s_coded) (defScope s_coded) dvs_coded [] f fd → ∃ its, KBn K fd ["code", "x", "y", "d"] 1 ["d", "x"] (fun us ws => pick [.p 0, .k 1, .d 1, .k 0] us its ws) (fun vs zs => pick [.p 0, .k 1, .d 1, .k 0] vs dvs_coded zs) := fun f fd F => bindK F (by simp) fun T kV doc pm an cdv ct us its ws h1 h2 h3 => by
  match us, its, ws, h1, h2, h3 with
  | [u0], [i0, i1, i2], [w0, w1], _, _, _ => exact ⟨_, rfl, rfl⟩
/-! law -/
abbrev s_law : Stmt := topS 42
def M_law_s1 : MS := (sAsgT (gTup2 2 (gsCons (gN 11) (gsCons (gN 12) gsNil))) (mAgs gTupD (aCons (mCallP 2 F_law_one (aCons (mAgs gLstD (aCons (mC (.int 8)) (aCons (mUn iNeg (mC (.int 1))) (aCons (mC .non) (aCons (mC (.bl false)) (aCons (mV 11) aNil)))))) aNil)) (aCons (mCallP 2 F_law_one (aCons (mAgs gLstD (aCons (mC (.int 8)) (aCons (mAgs gLstD aNil) (aCons (mV 12) (aCons (mV 12) aNil))))) aNil)) aNil))))
def M_law_s2 : MS := (sAsg 3 (mCallP 2 F_law_one (aCons (mAgs gLstD (aCons (mC .non) (aCons (mC (.bl true)) (aCons (mC (.str "1")) (aCons (mV 3) (aCons (mV 3) aNil)))))) aNil)))
def M_law_s3 : MS := (sAsg 13 (mAgs (b1 gTupOf) (aCons (mFrz (mLc (mSeq (mOp gIx (mV 8) (mC (.int 1)))) (gTup2 2 (gsCons (gN 15) (gsCons (gN 16) gsNil))) mYes (mAgs gTupD (aCons (mV 15) (aCons (mOp iDiv (mV 16) (mC (.int 2048))) aNil))) [15, 16])) aNil)))
def M_law_s4 : MS := (sAsg 3 (mIf (mOp gEq (mV 13) (mAgs gTupD aNil)) (mOp iDiv (mV 6) (mC (.int 2048))) (mAgs gTupD (aCons (mOp iDiv (mV 6) (mC (.int 2048))) (aCons (mV 13) aNil)))))
def M_law_s5 : MS := (sAsg 14 (mAgs gTupD (aCons (mOp iMod (mV 6) (mC (.int 32))) (aCons (mOp iMod (mOp iDiv (mV 6) (mC (.int 32))) (mC (.int 8))) (aCons (mOp iMod (mOp iDiv (mV 6) (mC (.int 256))) (mC (.int 8))) (aCons (mV 3) aNil))))))
def M_law_s6 : MS := (sIf (mAgs (b1 gAny) (aCons (mFrz (mLc (mSeq (mOp gIx (mV 8) (mC (.int 1)))) (gTup2 2 (gsCons (gN 15) (gsCons (gN 16) gsNil))) mYes (mOp gNe (mOp iMod (mV 16) (mC (.int 2048))) (mC (.int 0))) [15, 16])) aNil)) (sAsg 14 (mC .non)) sNil)
def M_law_s7 : MS := (sIf (mOr (mOp gNe (mCall F_fields (aCons (mV 8) aNil)) (mV 14)) (mOp gNe (mCall F_instruction (aCons (mV 8) aNil)) (mCall F_law_told (aCons (mCall F_law_row (aCons (mV 8) aNil)) aNil)))) (sRet (mC (.bl false))) sNil)
def M_law_b8 : MS := (sSeq M_law_s3
  (sSeq M_law_s4
  (sSeq M_law_s5
  (sSeq M_law_s6
  M_law_s7))))
def M_law_s9 : MS := (sAsgO 2 (mCallO F_law_pool (aCons (mOp iAdd (mCall F_law_cell (aCons (mV 0) (aCons (mV 1) aNil))) (mV 1)) aNil)))
def M_law_s10 : MS := (sAsgT (gTup2 3 (gsCons (gN 10) (gsCons (gN 11) (gsCons (gN 12) gsNil)))) (mAgs gTupD (aCons (mCallP 2 F_law_take (aCons (mC (.int 32)) aNil)) (aCons (mCallP 2 F_law_take (aCons (mC (.int 8)) aNil)) (aCons (mCallP 2 F_law_take (aCons (mC (.int 8)) aNil)) aNil)))))
def M_law_s11 : MS := (sAsg 3 (mCallP 2 F_law_one (aCons (mAgs gLstD (aCons (mC (.int 0)) (aCons (mC (.int 0)) (aCons (mC (.int 1)) (aCons (mUn iNeg (mC (.int 1))) (aCons (mC (.int 255)) (aCons (mUn iNeg (mC (.int 256))) (aCons (mOp iPow (mC (.int 10)) (mC (.int 20))) (aCons (mUn iNeg (mOp iPow (mC (.int 10)) (mC (.int 20)))) aNil))))))))) aNil)))
def M_law_s12 : MS := (sIf (mOp gEq (mCallP 2 F_law_take (aCons (mC (.int 3)) aNil)) (mC (.int 0))) (sAsg 10 (mCallP 2 F_law_one (aCons (mAgs gLstD (aCons (mUn iNeg (mC (.int 1))) (aCons (mC (.int 32)) (aCons (mC .non) (aCons (mC (.bl true)) (aCons (mC (.str "0")) (aCons (mV 10) aNil))))))) aNil))) sNil)
def M_law_s13 : MS := (sIf (mOp gEq (mCallP 2 F_law_take (aCons (mC (.int 3)) aNil)) (mC (.int 0))) (sSeq M_law_s1
  M_law_s2) sNil)
def M_law_s14 : MS := (sAsg 4 (mCall F_law_first_bad (aCons (mV 10) (aCons (mV 11) (aCons (mV 12) (aCons (mV 3) aNil))))))
def M_law_s15 : MS := (sAsg 5 (mMet excs "told" cl_law_met (mCallK F_coded [.p 0, .p 1, .p 2, .p 3] dd_coded 4 0 (aCons (mV 10) (aCons (mV 11) (aCons (mV 12) (aCons (mV 3) aNil)))) aNil)))
def M_law_s16 : MS := (sIf (mOp gNotN (mV 4) (mC .non)) (sIf (mOp gNe (mV 5) (mAgs gTupD (aCons (mC (.str "field")) (aCons (mV 4) aNil)))) (sRet (mC (.bl false))) sNil) (sIf (mOp gNe (mV 5) (mAgs gTupD (aCons (mC (.str "told")) (aCons (mOp iAdd (mOp iAdd (mOp iAdd (mV 10) (mOp iMul (mC (.int 32)) (mV 11))) (mOp iMul (mC (.int 256)) (mV 12))) (mOp iMul (mC (.int 2048)) (mV 3))) aNil)))) (sRet (mC (.bl false))) (sIf (mOr (mOp gNe (mCall F_fields (aCons (mOp gIx (mV 5) (mC (.int 1))) aNil)) (mAgs gTupD (aCons (mV 10) (aCons (mV 11) (aCons (mV 12) (aCons (mV 3) aNil)))))) (mOr (mOp gNe (mCallK F_coded [.p 0, .d 0, .d 1, .d 2] dd_coded 1 0 (aCons (mV 10) aNil) aNil) (mV 10)) (mOp gNe (mCallK F_coded [.p 0, .k 1, .d 1, .k 0] dd_coded 1 2 (aCons (mV 10) aNil) (aCons (mV 3) (aCons (mV 11) aNil))) (mOp iSub (mOp gIx (mV 5) (mC (.int 1))) (mOp iMul (mC (.int 256)) (mV 12)))))) (sRet (mC (.bl false))) sNil)))
def M_law_s17 : MS := (sAsg 6 (mCallP 2 F_law_one (aCons (mAgs gLstD (aCons (mCallP 2 F_law_take (aCons (mC (.int 70000)) aNil)) (aCons (mUn iNeg (mCallP 2 F_law_take (aCons (mC (.int 70000)) aNil))) (aCons (mCallP 2 F_law_take (aCons (mC (.int 17)) aNil)) (aCons (mOp iPow (mC (.int 10)) (mC (.int 30))) (aCons (mUn iNeg (mC (.int 1))) aNil)))))) aNil)))
def M_law_s18 : MS := (sAsg 7 (mAgs gLstD (aCons (mAgs gTupD (aCons (mAgs gTupD (aCons (mC (.str "piece")) (aCons (mC (.str "a")) aNil))) (aCons (mCallP 2 F_law_one (aCons (mAgs gLstD (aCons (mC (.int 0)) (aCons (mC (.int 2048)) (aCons (mUn iNeg (mC (.int 2048))) (aCons (mC (.int 4096)) (aCons (mC (.int 1)) (aCons (mC (.int 32)) aNil))))))) aNil)) aNil))) (aCons (mAgs gTupD (aCons (mAgs gTupD (aCons (mC (.str "piece")) (aCons (mC (.str "b")) aNil))) (aCons (mCallP 2 F_law_one (aCons (mAgs gLstD (aCons (mC (.int 0)) (aCons (mUn iNeg (mC (.int 2048))) aNil))) aNil)) aNil))) aNil))))
def M_law_s19 : MS := (sFor (mSeq (mAgs gLstD (aCons (mAgs gTupD (aCons (mV 6) (aCons (mAgs gTupD aNil) aNil))) (aCons (mCall F_law_total (aCons (mV 6) (aCons (mV 7) aNil))) aNil)))) (gN 8) M_law_b8)
def M_law_s20 : MS := (sIf (mOr (mOp gNe (mCall F_fields (aCons (mV 6) aNil)) (mCall F_fields (aCons (mAgs gTupD (aCons (mV 6) (aCons (mAgs gTupD aNil) aNil))) aNil))) (mOp gNe (mCall F_instruction (aCons (mV 6) aNil)) (mCall F_instruction (aCons (mAgs gLstD (aCons (mV 6) (aCons (mAgs gLstD aNil) aNil))) aNil)))) (sRet (mC (.bl false))) sNil)
def M_law_s21 : MS := (sAsg 9 (mCallP 2 F_law_one (aCons (mAgs gLstD (aCons (mC .non) (aCons (mC (.bl true)) (aCons (mC (.str "a")) (aCons (mAgs gTupD (aCons (mC (.int 1)) aNil)) (aCons (mC (.dct [])) (aCons (mAgs gTupD (aCons (mC (.int 0)) (aCons (mAgs gTupD (aCons (mAgs gTupD (aCons (mAgs gTupD (aCons (mC (.str "in")) (aCons (mC (.int 0)) aNil))) (aCons (mC (.int 1)) aNil))) aNil)) aNil))) aNil))))))) aNil)))
def M_law_s22 : MS := (sIf (mOp gNeX (mAgs gLstD (aCons (mMet excs "told" cl_law_met (mCall F_fields (aCons (mV 9) aNil))) (aCons (mCallT F_law_met_two (aCons (mV 9) aNil)) aNil))) (mOp lRep (mAgs gLstD (aCons (mAgs gTupD (aCons (mC (.str "sum")) (aCons (mV 9) aNil))) aNil)) (mC (.int 2)))) (sRet (mC (.bl false))) sNil)
def M_law_b23 : MS := (sSeq M_law_s9
  (sSeq M_law_s10
  (sSeq M_law_s11
  (sSeq M_law_s12
  (sSeq M_law_s13
  (sSeq M_law_s14
  (sSeq M_law_s15
  (sSeq M_law_s16
  (sSeq M_law_s17
  (sSeq M_law_s18
  (sSeq M_law_s19
  (sSeq M_law_s20
  (sSeq M_law_s21
  M_law_s22)))))))))))))
def M_law_s24 : MS := (sFor (mRng1 (aCons (mC (.int 8)) aNil)) (gN 1) M_law_b23)
def M_law_s25 : MS := (sRet (mC (.bl true)))
abbrev N_law : List Str := ["_law_script", "_law_turn", "_law_pool_here", "_law_d", "_law_bad", "_law_found", "_law_number", "_law_pairs", "_law_word", "_law_odd", "_law_code", "_law_x", "_law_y", "_law_far", "_law_due", "_law_unknown", "_law_many"]
theorem sc_law : FnScope N_law ["_law_script"] (defScope s_law) := ⟨rfl, rfl, rfl, by decide +kernel, rfl, by decide +kernel, by decide +kernel⟩
def M_law : MS := (sSeq M_law_s24
  M_law_s25)
def F_law : List D → FR := runF M_law 1 16
theorem body_law (T : Txt K mg cls) (B : TxtB K base mg tb) : ∀ (f : Addr) (A : Around) (outer : List Env) (s : Shared) (H G : Hp) (E : XK), Room 9 (A.deeper (envOfC "law" (defScope s_law) s.heap.objs.size f (.ref (tb "law").1))) →
    PSs (cxOf (L2.CX Pr w) Pr w K mg base N_law "law" (defScope s_law) f (.ref (tb "law").1) A outer s H E) (defBody s_law) (tS (fcT K cls (tabL tb) G H) E M_law) := fun f A outer s H G E hr =>
  (s_cons (s_for po (i_rng1 T.n_range (a_cons e_int a_nil)) (g_n (i := 1) sc_law.nd) (s_cons (s_asgO (i := 2) sc_law.nd (o_df (ok_law_pool T) hr px (a_cons (e_op op_add d_add (e_df (ok_law_cell T) hr px (a_cons (e_v 0) (a_cons (e_v 1) a_nil))) (e_v 1)) a_nil)))
  (s_cons (s_asgT (e_tup (a_cons (e_dp (i := 2) (ok_law_take T) hr px (a_cons e_int a_nil)) (a_cons (e_dp (i := 2) (ok_law_take T) hr px (a_cons e_int a_nil)) (a_cons (e_dp (i := 2) (ok_law_take T) hr px (a_cons e_int a_nil)) a_nil)))) (g_tup (n := 3) (gs_cons (g_n (i := 10) sc_law.nd) (gs_cons (g_n (i := 11) sc_law.nd) (gs_cons (g_n (i := 12) sc_law.nd) gs_nil)))))
  (s_cons (s_asg (i := 3) sc_law.nd (e_dp (i := 2) (ok_law_one T) hr px (a_cons (e_lst (a_cons e_int (a_cons e_int (a_cons e_int (a_cons (e_un un_neg d_neg e_int) (a_cons e_int (a_cons (e_un un_neg d_neg e_int) (a_cons (e_op op_pow d_pow e_int e_int) (a_cons (e_un un_neg d_neg (e_op op_pow d_pow e_int e_int)) a_nil))))))))) a_nil)))
  (s_cons (s_if (t_cmp (op_eqD hr.units) d_eq (e_dp (i := 2) (ok_law_take T) hr px (a_cons e_int a_nil)) e_int) (s_one (s_asg (i := 10) sc_law.nd (e_dp (i := 2) (ok_law_one T) hr px (a_cons (e_lst (a_cons (e_un un_neg d_neg e_int) (a_cons e_int (a_cons e_non (a_cons e_bl (a_cons e_str (a_cons (e_v 10) a_nil))))))) a_nil)))) s_nil)
  (s_cons (s_if (t_cmp (op_eqD hr.units) d_eq (e_dp (i := 2) (ok_law_take T) hr px (a_cons e_int a_nil)) e_int) (s_cons (s_asgT (e_tup (a_cons (e_dp (i := 2) (ok_law_one T) hr px (a_cons (e_lst (a_cons e_int (a_cons (e_un un_neg d_neg e_int) (a_cons e_non (a_cons e_bl (a_cons (e_v 11) a_nil)))))) a_nil)) (a_cons (e_dp (i := 2) (ok_law_one T) hr px (a_cons (e_lst (a_cons e_int (a_cons (e_lst a_nil) (a_cons (e_v 12) (a_cons (e_v 12) a_nil))))) a_nil)) a_nil))) (g_tup (n := 2) (gs_cons (g_n (i := 11) sc_law.nd) (gs_cons (g_n (i := 12) sc_law.nd) gs_nil))))
  (s_one (s_asg (i := 3) sc_law.nd (e_dp (i := 2) (ok_law_one T) hr px (a_cons (e_lst (a_cons e_non (a_cons e_bl (a_cons e_str (a_cons (e_v 3) (a_cons (e_v 3) a_nil)))))) a_nil))))) s_nil)
  (s_cons (s_asg (i := 4) sc_law.nd (e_df (ok_law_first_bad T) hr px (a_cons (e_v 10) (a_cons (e_v 11) (a_cons (e_v 12) (a_cons (e_v 3) a_nil))))))
  (s_cons (s_asg (i := 5) sc_law.nd (e_met (k := 3) (ok_law_met T) B.tb_law rfl (mem_law tb) (fun p hp he => B.uq _ _ p hp he (mem_law tb)) hr (fun G0 H0 A outer s H E f c1 hr2 => (e_dk (ok_coded T) hr2 pxL1 (a_cons (e_v 10) (a_cons (e_v 11) (a_cons (e_v 12) (a_cons (e_v 3) a_nil)))) k_nil dv_coded (bk_0))) (show LamX.LamS (defScope s_law) _ from LamX.lamS_by (by decide +kernel))))
  (s_cons (s_if (t_cmp op_notN d_notN (e_v 4) e_non) (s_one (s_if (t_cmp (op_neD hr.units) d_ne (e_v 5) (e_tup (a_cons e_str (a_cons (e_v 4) a_nil)))) (s_one (s_ret e_bl)) s_nil)) (s_one (s_if (t_cmp (op_neD hr.units) d_ne (e_v 5) (e_tup (a_cons e_str (a_cons (e_op op_add d_add (e_op op_add d_add (e_op op_add d_add (e_v 10) (e_op op_mul d_mul e_int (e_v 11))) (e_op op_mul d_mul e_int (e_v 12))) (e_op op_mul d_mul e_int (e_v 3))) a_nil)))) (s_one (s_ret e_bl)) (s_one (s_if (PW.pt (t_or (t_cmp (op_neD hr.units) d_ne (e_df (ok_fields T) hr px (a_cons (e_ix ix_seq d_ix (e_v 5) e_int) a_nil)) (e_tup (a_cons (e_v 10) (a_cons (e_v 11) (a_cons (e_v 12) (a_cons (e_v 3) a_nil)))))) (t_or (t_cmp (op_neD hr.units) d_ne (e_dk (ok_coded T) hr px (a_cons (e_v 10) a_nil) k_nil dv_coded (bk_1)) (e_v 10)) (t_or1 (t_cmp (op_neD hr.units) d_ne (e_dk (ok_coded T) hr px (a_cons (e_v 10) a_nil) (k_cons (e_v 3) (k_cons (e_v 11) k_nil)) dv_coded (bk_2)) (e_op op_sub d_sub (e_ix ix_seq d_ix (e_v 5) e_int) (e_op op_mul d_mul e_int (e_v 12)))))))) (s_one (s_ret e_bl)) s_nil)))))
  (s_cons (s_asg (i := 6) sc_law.nd (e_dp (i := 2) (ok_law_one T) hr px (a_cons (e_lst (a_cons (e_dp (i := 2) (ok_law_take T) hr px (a_cons e_int a_nil)) (a_cons (e_un un_neg d_neg (e_dp (i := 2) (ok_law_take T) hr px (a_cons e_int a_nil))) (a_cons (e_dp (i := 2) (ok_law_take T) hr px (a_cons e_int a_nil)) (a_cons (e_op op_pow d_pow e_int e_int) (a_cons (e_un un_neg d_neg e_int) a_nil)))))) a_nil)))
  (s_cons (s_asg (i := 7) sc_law.nd (e_lst (a_cons (e_tup (a_cons (e_tup (a_cons e_str (a_cons e_str a_nil))) (a_cons (e_dp (i := 2) (ok_law_one T) hr px (a_cons (e_lst (a_cons e_int (a_cons e_int (a_cons (e_un un_neg d_neg e_int) (a_cons e_int (a_cons e_int (a_cons e_int a_nil))))))) a_nil)) a_nil))) (a_cons (e_tup (a_cons (e_tup (a_cons e_str (a_cons e_str a_nil))) (a_cons (e_dp (i := 2) (ok_law_one T) hr px (a_cons (e_lst (a_cons e_int (a_cons (e_un un_neg d_neg e_int) a_nil))) a_nil)) a_nil))) a_nil))))
  (s_cons (s_for po (i_seq (e_lst (a_cons (e_tup (a_cons (e_v 6) (a_cons (e_tup a_nil) a_nil))) (a_cons (e_df (ok_law_total T) hr px (a_cons (e_v 6) (a_cons (e_v 7) a_nil))) a_nil)))) (g_n (i := 8) sc_law.nd) (s_cons (s_asg (i := 13) sc_law.nd (e_ty call_tuple_of d_tupOf (a_cons (e_frz (o_lc (own := [("_law_unknown", 15), ("_law_many", 16)]) sc_law.nd (i_seq (e_ix ix_seq d_ix (e_v 8) e_int)) (blkOk_by (N := N_law) (sc := defScope s_law) (by decide +kernel)) (fun _ _ _ _ _ => (gk_tup (n := 2) (gks_cons (gk_n (i := 15) sc_law.nd) (gks_cons (gk_n (i := 16) sc_law.nd) gks_nil)))) (fun _ _ _ _ _ => c_yes) (fun _ _ _ _ _ => (e_tup (a_cons (e_v 15) (a_cons (e_op op_fdiv d_div (e_v 16) e_int) a_nil)))))) a_nil) T.n_tuple))
  (s_cons (s_asg (i := 3) sc_law.nd (e_if (t_cmp (op_eqD hr.units) d_eq (e_v 13) (e_tup a_nil)) (e_op op_fdiv d_div (e_v 6) e_int) (e_tup (a_cons (e_op op_fdiv d_div (e_v 6) e_int) (a_cons (e_v 13) a_nil)))))
  (s_cons (s_asg (i := 14) sc_law.nd (e_tup (a_cons (e_op op_mod d_mod (e_v 6) e_int) (a_cons (e_op op_mod d_mod (e_op op_fdiv d_div (e_v 6) e_int) e_int) (a_cons (e_op op_mod d_mod (e_op op_fdiv d_div (e_v 6) e_int) e_int) (a_cons (e_v 3) a_nil))))))
  (s_cons (s_if (t_val (e_b (cr_any rfl) d_any (a_cons (e_frz (o_lc (own := [("_law_unknown", 15), ("_law_many", 16)]) sc_law.nd (i_seq (e_ix ix_seq d_ix (e_v 8) e_int)) (blkOk_by (N := N_law) (sc := defScope s_law) (by decide +kernel)) (fun _ _ _ _ _ => (gk_tup (n := 2) (gks_cons (gk_n (i := 15) sc_law.nd) (gks_cons (gk_n (i := 16) sc_law.nd) gks_nil)))) (fun _ _ _ _ _ => c_yes) (fun _ _ _ _ _ => (e_cmp (op_neD hr.units) d_ne (e_op op_mod d_mod (e_v 16) e_int) e_int)))) a_nil) T.n_any)) (s_one (s_asg (i := 14) sc_law.nd e_non)) s_nil)
  (s_one (s_if (PW.pt (t_or (t_cmp (op_neD hr.units) d_ne (e_df (ok_fields T) hr px (a_cons (e_v 8) a_nil)) (e_v 14)) (t_or1 (t_cmp (op_neD hr.units) d_ne (e_df (ok_instruction T) hr px (a_cons (e_v 8) a_nil)) (e_df (ok_law_told T) hr px (a_cons (e_df (ok_law_row T) hr px (a_cons (e_v 8) a_nil)) a_nil)))))) (s_one (s_ret e_bl)) s_nil)))))))
  (s_cons (s_if (PW.pt (t_or (t_cmp (op_neD hr.units) d_ne (e_df (ok_fields T) hr px (a_cons (e_v 6) a_nil)) (e_df (ok_fields T) hr px (a_cons (e_tup (a_cons (e_v 6) (a_cons (e_tup a_nil) a_nil))) a_nil))) (t_or1 (t_cmp (op_neD hr.units) d_ne (e_df (ok_instruction T) hr px (a_cons (e_v 6) a_nil)) (e_df (ok_instruction T) hr px (a_cons (e_lst (a_cons (e_v 6) (a_cons (e_lst a_nil) a_nil))) a_nil)))))) (s_one (s_ret e_bl)) s_nil)
  (s_cons (s_asg (i := 9) sc_law.nd (e_dp (i := 2) (ok_law_one T) hr px (a_cons (e_lst (a_cons e_non (a_cons e_bl (a_cons e_str (a_cons (e_tup (a_cons e_int a_nil)) (a_cons e_dct0 (a_cons (e_tup (a_cons e_int (a_cons (e_tup (a_cons (e_tup (a_cons (e_tup (a_cons e_str (a_cons e_int a_nil))) (a_cons e_int a_nil))) a_nil)) a_nil))) a_nil))))))) a_nil)))
  (s_one (s_if (t_cmp (op_neX (u128 hr)) d_neX (e_lst (a_cons (e_met (k := 6) (ok_law_met T) B.tb_law rfl (mem_law tb) (fun p hp he => B.uq _ _ p hp he (mem_law tb)) hr (fun G0 H0 A outer s H E f c1 hr2 => (e_df (ok_fields T) hr2 pxL1 (a_cons (e_v 9) a_nil))) (show LamX.LamS (defScope s_law) _ from LamX.lamS_by (by decide +kernel))) (a_cons (e_dfT (ok_law_met_two T B) hr px (a_cons (e_v 9) a_nil)) a_nil))) (e_op op_rep d_rep (e_lst (a_cons (e_tup (a_cons e_str (a_cons (e_v 9) a_nil))) a_nil)) e_int)) (s_one (s_ret e_bl)) s_nil))))))))))))))))
  (s_one (s_ret e_bl)))
end
def clsOf (C_BadSum : Addr) (C_BadField : Addr) : Str → Addr := fun x => if x = "BadSum" then C_BadSum else if x = "BadField" then C_BadField else 0
theorem txt_mk {K : PySem.W.Frag} {h : Heap} {mg : Str → Option Value} {f0 : Addr} {oc0 : Value} {od0 an0 : Option Addr} {sl0 : Array (Option Value)} {kV0 dc0 pm0 ct0 : Value} {cd0 : Value} {f1 : Addr} {oc1 : Value} {od1 an1 : Option Addr} {sl1 : Array (Option Value)} {kV1 dc1 pm1 ct1 : Value} {cd1 : Value} {f2 : Addr} {oc2 : Value} {od2 an2 : Option Addr} {sl2 : Array (Option Value)} {kV2 dc2 pm2 ct2 : Value} {cd2 : Value} {f3 : Addr} {oc3 : Value} {od3 an3 : Option Addr} {sl3 : Array (Option Value)} {kV3 dc3 pm3 ct3 : Value} {cd3 : Value} {f4 : Addr} {oc4 : Value} {od4 an4 : Option Addr} {sl4 : Array (Option Value)} {kV4 dc4 pm4 ct4 : Value} {cd4 : Value} {f5 : Addr} {oc5 : Value} {od5 an5 : Option Addr} {sl5 : Array (Option Value)} {kV5 dc5 pm5 ct5 : Value} {cd5 : Value} {f6 : Addr} {oc6 : Value} {od6 an6 : Option Addr} {sl6 : Array (Option Value)} {kV6 dc6 pm6 ct6 : Value} {cd6 : Value} {f7 : Addr} {oc7 : Value} {od7 an7 : Option Addr} {sl7 : Array (Option Value)} {kV7 dc7 pm7 ct7 : Value} {cd7 : Value} {f8 : Addr} {oc8 : Value} {od8 an8 : Option Addr} {sl8 : Array (Option Value)} {kV8 dc8 pm8 ct8 : Value} {cd8 : Value} {f9 : Addr} {oc9 : Value} {od9 an9 : Option Addr} {sl9 : Array (Option Value)} {kV9 dc9 pm9 ct9 : Value} {cd9 : Value} {f10 : Addr} {oc10 : Value} {od10 an10 : Option Addr} {sl10 : Array (Option Value)} {kV10 dc10 pm10 ct10 : Value} {cd10 : Value} {T10 : Addr} {oT10 : Obj} {t10_0 t10_1 t10_2 : Tok} {nT10 : Nat} {f11 : Addr} {oc11 : Value} {od11 an11 : Option Addr} {sl11 : Array (Option Value)} {kV11 dc11 pm11 ct11 : Value} {cd11 : Value} {f12 : Addr} {oc12 : Value} {od12 an12 : Option Addr} {sl12 : Array (Option Value)} {kV12 dc12 pm12 ct12 : Value} {cd12 : Value} {f13 : Addr} {oc13 : Value} {od13 an13 : Option Addr} {sl13 : Array (Option Value)} {kV13 dc13 pm13 ct13 : Value} {cd13 : Value} {f14 : Addr} {oc14 : Value} {od14 an14 : Option Addr} {sl14 : Array (Option Value)} {kV14 dc14 pm14 ct14 : Value} {cd14 : Value} {f15 : Addr} {oc15 : Value} {od15 an15 : Option Addr} {sl15 : Array (Option Value)} {kV15 dc15 pm15 ct15 : Value} {cd15 : Value} {f16 : Addr} {oc16 : Value} {od16 an16 : Option Addr} {sl16 : Array (Option Value)} {kV16 dc16 pm16 ct16 : Value} {cd16 : Value} {f17 : Addr} {oc17 : Value} {od17 an17 : Option Addr} {sl17 : Array (Option Value)} {kV17 dc17 pm17 ct17 : Value} {cd17 : Value} {f18 : Addr} {oc18 : Value} {od18 an18 : Option Addr} {sl18 : Array (Option Value)} {kV18 dc18 pm18 ct18 : Value} {cd18 : Value} {f19 : Addr} {oc19 : Value} {od19 an19 : Option Addr} {sl19 : Array (Option Value)} {kV19 dc19 pm19 ct19 : Value} {cd19 : Value} {f20 : Addr} {oc20 : Value} {od20 an20 : Option Addr} {sl20 : Array (Option Value)} {kV20 dc20 pm20 ct20 : Value} {cd20 : Value} {f21 : Addr} {oc21 : Value} {od21 an21 : Option Addr} {sl21 : Array (Option Value)} {kV21 dc21 pm21 ct21 : Value} {cd21 : Value} {f22 : Addr} {oc22 : Value} {od22 an22 : Option Addr} {sl22 : Array (Option Value)} {kV22 dc22 pm22 ct22 : Value} {cd22 : Value} {f23 : Addr} {oc23 : Value} {od23 an23 : Option Addr} {sl23 : Array (Option Value)} {kV23 dc23 pm23 ct23 : Value} {cd23 : Value} {f24 : Addr} {oc24 : Value} {od24 an24 : Option Addr} {sl24 : Array (Option Value)} {kV24 dc24 pm24 ct24 : Value} {cd24 : Value} {f25 : Addr} {oc25 : Value} {od25 an25 : Option Addr} {sl25 : Array (Option Value)} {kV25 dc25 pm25 ct25 : Value} {c25 : Addr} {f26 : Addr} {oc26 : Value} {od26 an26 : Option Addr} {sl26 : Array (Option Value)} {kV26 dc26 pm26 ct26 : Value} {c26 : Addr} {t_LETTERS : Tok} {t_LONGEST : Tok} {q_KINDS : Addr} {o_KINDS : Obj} {n_KINDS : Nat} {t_KINDS_0 t_KINDS_1 t_KINDS_2 : Tok} {t_CODES : Tok} {t_FIELDS : Tok} {t_STEP : Tok} {q_CALLED : Addr} {o_CALLED : Obj} {n_CALLED : Nat} {t_CALLED_0 t_CALLED_1 t_CALLED_2 t_CALLED_3 t_CALLED_4 t_CALLED_5 t_CALLED_6 t_CALLED_7 t_CALLED_8 t_CALLED_9 t_CALLED_10 t_CALLED_11 t_CALLED_12 t_CALLED_13 t_CALLED_14 t_CALLED_15 t_CALLED_16 : Tok} {q_USED : Addr} {o_USED : Obj} {n_USED : Nat} {t_USED_0 t_USED_1 t_USED_2 t_USED_3 t_USED_4 t_USED_5 t_USED_6 t_USED_7 t_USED_8 t_USED_9 t_USED_10 t_USED_11 t_USED_12 t_USED_13 t_USED_14 t_USED_15 t_USED_16 : Tok} {C_BadSum I_BadSum : Addr} {ocBadSum : Value} {odBadSum anBadSum : Option Addr} {slBadSum : Array (Option Value)} {kVBadSum dcBadSum pmBadSum cdBadSum ctBadSum : Value} {nm_BadSum qn_BadSum : Str} {N_BadSum : Addr} {bs_BadSum bm_BadSum : List Value} {sn_BadSum : List Str} {sub_BadSum : List Value} {ab_BadSum : Bool} {col_BadSum : Option Bool} {dd_BadSum : Option Addr} {k0_BadSum k1_BadSum k2_BadSum k3_BadSum k5_BadSum : Option Value} {C_BadField I_BadField : Addr} {ocBadField : Value} {odBadField anBadField : Option Addr} {slBadField : Array (Option Value)} {kVBadField dcBadField pmBadField cdBadField ctBadField : Value} {nm_BadField qn_BadField : Str} {N_BadField : Addr} {bs_BadField bm_BadField : List Value} {sn_BadField : List Str} {sub_BadField : List Value} {ab_BadField : Bool} {col_BadField : Option Bool} {dd_BadField : Option Addr} {k0_BadField k1_BadField k2_BadField k3_BadField k5_BadField : Option Value} (X : K.In h) (G : h.Ns mainGlobals mg)
    (a0 : PySem.W.nsIn K mainGlobals "is_integer" = some (some (.ref f0)))
    (l0 : K.lookup f0 = some ⟨oc0, od0, .func (PySem.W.fnOf "is_integer" "is_integer" (defArgs (topS 3)) (defBody (topS 3)) (defScope (topS 3)) .none kV0 dc0 pm0 an0 cd0 ct0), sl0⟩)
    (c0_ : PySem.W.codeIn K cd0 "is_integer" = true)
    (k0 : PySem.W.keepIn K (.ref f0) = true)
    (a1 : PySem.W.nsIn K mainGlobals "is_list" = some (some (.ref f1)))
    (l1 : K.lookup f1 = some ⟨oc1, od1, .func (PySem.W.fnOf "is_list" "is_list" (defArgs (topS 4)) (defBody (topS 4)) (defScope (topS 4)) .none kV1 dc1 pm1 an1 cd1 ct1), sl1⟩)
    (c1_ : PySem.W.codeIn K cd1 "is_list" = true)
    (k1 : PySem.W.keepIn K (.ref f1) = true)
    (a2 : PySem.W.nsIn K mainGlobals "is_name" = some (some (.ref f2)))
    (l2 : K.lookup f2 = some ⟨oc2, od2, .func (PySem.W.fnOf "is_name" "is_name" (defArgs (topS 5)) (defBody (topS 5)) (defScope (topS 5)) .none kV2 dc2 pm2 an2 cd2 ct2), sl2⟩)
    (c2_ : PySem.W.codeIn K cd2 "is_name" = true)
    (k2 : PySem.W.keepIn K (.ref f2) = true)
    (a3 : PySem.W.nsIn K mainGlobals "is_unknown" = some (some (.ref f3)))
    (l3 : K.lookup f3 = some ⟨oc3, od3, .func (PySem.W.fnOf "is_unknown" "is_unknown" (defArgs (topS 12)) (defBody (topS 12)) (defScope (topS 12)) .none kV3 dc3 pm3 an3 cd3 ct3), sl3⟩)
    (c3_ : PySem.W.codeIn K cd3 "is_unknown" = true)
    (k3 : PySem.W.keepIn K (.ref f3) = true)
    (a4 : PySem.W.nsIn K mainGlobals "order_of" = some (some (.ref f4)))
    (l4 : K.lookup f4 = some ⟨oc4, od4, .func (PySem.W.fnOf "order_of" "order_of" (defArgs (topS 13)) (defBody (topS 13)) (defScope (topS 13)) .none kV4 dc4 pm4 an4 cd4 ct4), sl4⟩)
    (c4_ : PySem.W.codeIn K cd4 "order_of" = true)
    (k4 : PySem.W.keepIn K (.ref f4) = true)
    (a5 : PySem.W.nsIn K mainGlobals "summed" = some (some (.ref f5)))
    (l5 : K.lookup f5 = some ⟨oc5, od5, .func (PySem.W.fnOf "summed" "summed" (defArgs (topS 14)) (defBody (topS 14)) (defScope (topS 14)) .none kV5 dc5 pm5 an5 cd5 ct5), sl5⟩)
    (c5_ : PySem.W.codeIn K cd5 "summed" = true)
    (k5 : PySem.W.keepIn K (.ref f5) = true)
    (a6 : PySem.W.nsIn K mainGlobals "is_pair_of" = some (some (.ref f6)))
    (l6 : K.lookup f6 = some ⟨oc6, od6, .func (PySem.W.fnOf "is_pair_of" "is_pair_of" (defArgs (topS 15)) (defBody (topS 15)) (defScope (topS 15)) .none kV6 dc6 pm6 an6 cd6 ct6), sl6⟩)
    (c6_ : PySem.W.codeIn K cd6 "is_pair_of" = true)
    (k6 : PySem.W.keepIn K (.ref f6) = true)
    (a7 : PySem.W.nsIn K mainGlobals "is_sum" = some (some (.ref f7)))
    (l7 : K.lookup f7 = some ⟨oc7, od7, .func (PySem.W.fnOf "is_sum" "is_sum" (defArgs (topS 16)) (defBody (topS 16)) (defScope (topS 16)) .none kV7 dc7 pm7 an7 cd7 ct7), sl7⟩)
    (c7_ : PySem.W.codeIn K cd7 "is_sum" = true)
    (k7 : PySem.W.keepIn K (.ref f7) = true)
    (a8 : PySem.W.nsIn K mainGlobals "sum_of" = some (some (.ref f8)))
    (l8 : K.lookup f8 = some ⟨oc8, od8, .func (PySem.W.fnOf "sum_of" "sum_of" (defArgs (topS 17)) (defBody (topS 17)) (defScope (topS 17)) .none kV8 dc8 pm8 an8 cd8 ct8), sl8⟩)
    (c8_ : PySem.W.codeIn K cd8 "sum_of" = true)
    (k8 : PySem.W.keepIn K (.ref f8) = true)
    (a9 : PySem.W.nsIn K mainGlobals "is_below" = some (some (.ref f9)))
    (l9 : K.lookup f9 = some ⟨oc9, od9, .func (PySem.W.fnOf "is_below" "is_below" (defArgs (topS 24)) (defBody (topS 24)) (defScope (topS 24)) .none kV9 dc9 pm9 an9 cd9 ct9), sl9⟩)
    (c9_ : PySem.W.codeIn K cd9 "is_below" = true)
    (k9 : PySem.W.keepIn K (.ref f9) = true)
    (a10 : PySem.W.nsIn K mainGlobals "coded" = some (some (.ref f10)))
    (l10 : K.lookup f10 = some ⟨oc10, od10, .func (PySem.W.fnOf "coded" "coded" (defArgs (topS 25)) (defBody (topS 25)) (defScope (topS 25)) (.ref T10) kV10 dc10 pm10 an10 cd10 ct10), sl10⟩)
    (c10_ : PySem.W.codeIn K cd10 "coded" = true)
    (k10 : PySem.W.keepIn K (.ref f10) = true)
    (lT10 : K.lookup T10 = some oT10)
    (oT10_ : oT10.data = .seq [Value.int 0 t10_0, Value.int 0 t10_1, Value.int 0 t10_2].toArray nT10)
    (a11 : PySem.W.nsIn K mainGlobals "fields_in" = some (some (.ref f11)))
    (l11 : K.lookup f11 = some ⟨oc11, od11, .func (PySem.W.fnOf "fields_in" "fields_in" (defArgs (topS 26)) (defBody (topS 26)) (defScope (topS 26)) .none kV11 dc11 pm11 an11 cd11 ct11), sl11⟩)
    (c11_ : PySem.W.codeIn K cd11 "fields_in" = true)
    (k11 : PySem.W.keepIn K (.ref f11) = true)
    (a12 : PySem.W.nsIn K mainGlobals "fields" = some (some (.ref f12)))
    (l12 : K.lookup f12 = some ⟨oc12, od12, .func (PySem.W.fnOf "fields" "fields" (defArgs (topS 27)) (defBody (topS 27)) (defScope (topS 27)) .none kV12 dc12 pm12 an12 cd12 ct12), sl12⟩)
    (c12_ : PySem.W.codeIn K cd12 "fields" = true)
    (k12 : PySem.W.keepIn K (.ref f12) = true)
    (a13 : PySem.W.nsIn K mainGlobals "instruction_in" = some (some (.ref f13)))
    (l13 : K.lookup f13 = some ⟨oc13, od13, .func (PySem.W.fnOf "instruction_in" "instruction_in" (defArgs (topS 28)) (defBody (topS 28)) (defScope (topS 28)) .none kV13 dc13 pm13 an13 cd13 ct13), sl13⟩)
    (c13_ : PySem.W.codeIn K cd13 "instruction_in" = true)
    (k13 : PySem.W.keepIn K (.ref f13) = true)
    (a14 : PySem.W.nsIn K mainGlobals "instruction" = some (some (.ref f14)))
    (l14 : K.lookup f14 = some ⟨oc14, od14, .func (PySem.W.fnOf "instruction" "instruction" (defArgs (topS 29)) (defBody (topS 29)) (defScope (topS 29)) .none kV14 dc14 pm14 an14 cd14 ct14), sl14⟩)
    (c14_ : PySem.W.codeIn K cd14 "instruction" = true)
    (k14 : PySem.W.keepIn K (.ref f14) = true)
    (a15 : PySem.W.nsIn K mainGlobals "_law_cell" = some (some (.ref f15)))
    (l15 : K.lookup f15 = some ⟨oc15, od15, .func (PySem.W.fnOf "_law_cell" "_law_cell" (defArgs (topS 31)) (defBody (topS 31)) (defScope (topS 31)) .none kV15 dc15 pm15 an15 cd15 ct15), sl15⟩)
    (c15_ : PySem.W.codeIn K cd15 "_law_cell" = true)
    (k15 : PySem.W.keepIn K (.ref f15) = true)
    (a16 : PySem.W.nsIn K mainGlobals "_law_pool" = some (some (.ref f16)))
    (l16 : K.lookup f16 = some ⟨oc16, od16, .func (PySem.W.fnOf "_law_pool" "_law_pool" (defArgs (topS 32)) (defBody (topS 32)) (defScope (topS 32)) .none kV16 dc16 pm16 an16 cd16 ct16), sl16⟩)
    (c16_ : PySem.W.codeIn K cd16 "_law_pool" = true)
    (k16 : PySem.W.keepIn K (.ref f16) = true)
    (a17 : PySem.W.nsIn K mainGlobals "_law_take" = some (some (.ref f17)))
    (l17 : K.lookup f17 = some ⟨oc17, od17, .func (PySem.W.fnOf "_law_take" "_law_take" (defArgs (topS 33)) (defBody (topS 33)) (defScope (topS 33)) .none kV17 dc17 pm17 an17 cd17 ct17), sl17⟩)
    (c17_ : PySem.W.codeIn K cd17 "_law_take" = true)
    (k17 : PySem.W.keepIn K (.ref f17) = true)
    (a18 : PySem.W.nsIn K mainGlobals "_law_one" = some (some (.ref f18)))
    (l18 : K.lookup f18 = some ⟨oc18, od18, .func (PySem.W.fnOf "_law_one" "_law_one" (defArgs (topS 34)) (defBody (topS 34)) (defScope (topS 34)) .none kV18 dc18 pm18 an18 cd18 ct18), sl18⟩)
    (c18_ : PySem.W.codeIn K cd18 "_law_one" = true)
    (k18 : PySem.W.keepIn K (.ref f18) = true)
    (a19 : PySem.W.nsIn K mainGlobals "_law_row" = some (some (.ref f19)))
    (l19 : K.lookup f19 = some ⟨oc19, od19, .func (PySem.W.fnOf "_law_row" "_law_row" (defArgs (topS 35)) (defBody (topS 35)) (defScope (topS 35)) .none kV19 dc19 pm19 an19 cd19 ct19), sl19⟩)
    (c19_ : PySem.W.codeIn K cd19 "_law_row" = true)
    (k19 : PySem.W.keepIn K (.ref f19) = true)
    (a20 : PySem.W.nsIn K mainGlobals "_law_key" = some (some (.ref f20)))
    (l20 : K.lookup f20 = some ⟨oc20, od20, .func (PySem.W.fnOf "_law_key" "_law_key" (defArgs (topS 36)) (defBody (topS 36)) (defScope (topS 36)) .none kV20 dc20 pm20 an20 cd20 ct20), sl20⟩)
    (c20_ : PySem.W.codeIn K cd20 "_law_key" = true)
    (k20 : PySem.W.keepIn K (.ref f20) = true)
    (a21 : PySem.W.nsIn K mainGlobals "_law_total" = some (some (.ref f21)))
    (l21 : K.lookup f21 = some ⟨oc21, od21, .func (PySem.W.fnOf "_law_total" "_law_total" (defArgs (topS 37)) (defBody (topS 37)) (defScope (topS 37)) .none kV21 dc21 pm21 an21 cd21 ct21), sl21⟩)
    (c21_ : PySem.W.codeIn K cd21 "_law_total" = true)
    (k21 : PySem.W.keepIn K (.ref f21) = true)
    (a22 : PySem.W.nsIn K mainGlobals "_law_met" = some (some (.ref f22)))
    (l22 : K.lookup f22 = some ⟨oc22, od22, .func (PySem.W.fnOf "_law_met" "_law_met" (defArgs (topS 38)) (defBody (topS 38)) (defScope (topS 38)) .none kV22 dc22 pm22 an22 cd22 ct22), sl22⟩)
    (c22_ : PySem.W.codeIn K cd22 "_law_met" = true)
    (k22 : PySem.W.keepIn K (.ref f22) = true)
    (a23 : PySem.W.nsIn K mainGlobals "_law_first_bad" = some (some (.ref f23)))
    (l23 : K.lookup f23 = some ⟨oc23, od23, .func (PySem.W.fnOf "_law_first_bad" "_law_first_bad" (defArgs (topS 39)) (defBody (topS 39)) (defScope (topS 39)) .none kV23 dc23 pm23 an23 cd23 ct23), sl23⟩)
    (c23_ : PySem.W.codeIn K cd23 "_law_first_bad" = true)
    (k23 : PySem.W.keepIn K (.ref f23) = true)
    (a24 : PySem.W.nsIn K mainGlobals "_law_told" = some (some (.ref f24)))
    (l24 : K.lookup f24 = some ⟨oc24, od24, .func (PySem.W.fnOf "_law_told" "_law_told" (defArgs (topS 40)) (defBody (topS 40)) (defScope (topS 40)) .none kV24 dc24 pm24 an24 cd24 ct24), sl24⟩)
    (c24_ : PySem.W.codeIn K cd24 "_law_told" = true)
    (k24 : PySem.W.keepIn K (.ref f24) = true)
    (a25 : PySem.W.nsIn K mainGlobals "_law_met_two" = some (some (.ref f25)))
    (l25 : K.lookup f25 = some ⟨oc25, od25, .func (PySem.W.fnOf "_law_met_two" "_law_met_two" (defArgs (topS 41)) (defBody (topS 41)) (defScope (topS 41)) .none kV25 dc25 pm25 an25 (.ref c25) ct25), sl25⟩)
    (c25_ : PySem.W.codeIn K (.ref c25) "_law_met_two" = true)
    (k25 : PySem.W.keepIn K (.ref f25) = true)
    (a26 : PySem.W.nsIn K mainGlobals "law" = some (some (.ref f26)))
    (l26 : K.lookup f26 = some ⟨oc26, od26, .func (PySem.W.fnOf "law" "law" (defArgs (topS 42)) (defBody (topS 42)) (defScope (topS 42)) .none kV26 dc26 pm26 an26 (.ref c26) ct26), sl26⟩)
    (c26_ : PySem.W.codeIn K (.ref c26) "law" = true)
    (k26 : PySem.W.keepIn K (.ref f26) = true)
    (z_len : PySem.W.nsIn K mainGlobals "len" = some none)
    (z_int : PySem.W.nsIn K mainGlobals "int" = some none)
    (z_isinstance : PySem.W.nsIn K mainGlobals "isinstance" = some none)
    (z_bool : PySem.W.nsIn K mainGlobals "bool" = some none)
    (z_str : PySem.W.nsIn K mainGlobals "str" = some none)
    (z_list : PySem.W.nsIn K mainGlobals "list" = some none)
    (z_tuple : PySem.W.nsIn K mainGlobals "tuple" = some none)
    (z_all : PySem.W.nsIn K mainGlobals "all" = some none)
    (z_any : PySem.W.nsIn K mainGlobals "any" = some none)
    (z_sorted : PySem.W.nsIn K mainGlobals "sorted" = some none)
    (z_range : PySem.W.nsIn K mainGlobals "range" = some none)
    (g_LETTERS : PySem.W.nsIn K mainGlobals "LETTERS" = some (some (.str "abcdefghijklmnopqrstuvwxyz" t_LETTERS)))
    (g_LONGEST : PySem.W.nsIn K mainGlobals "LONGEST" = some (some (.int 8 t_LONGEST)))
    (g_KINDS : PySem.W.nsIn K mainGlobals "KINDS" = some (some (.ref q_KINDS)))
    (gl_KINDS : K.lookup q_KINDS = some o_KINDS)
    (gc_KINDS : o_KINDS.cls = .type "tuple")
    (gd_KINDS : o_KINDS.dict = none)
    (gs_KINDS : o_KINDS.data = .seq [Value.str "piece" t_KINDS_0, Value.str "name" t_KINDS_1, Value.str "in" t_KINDS_2].toArray n_KINDS)
    (g_CODES : PySem.W.nsIn K mainGlobals "CODES" = some (some (.int 32 t_CODES)))
    (g_FIELDS : PySem.W.nsIn K mainGlobals "FIELDS" = some (some (.int 8 t_FIELDS)))
    (g_STEP : PySem.W.nsIn K mainGlobals "STEP" = some (some (.int 2048 t_STEP)))
    (g_CALLED : PySem.W.nsIn K mainGlobals "CALLED" = some (some (.ref q_CALLED)))
    (gl_CALLED : K.lookup q_CALLED = some o_CALLED)
    (gc_CALLED : o_CALLED.cls = .type "tuple")
    (gd_CALLED : o_CALLED.dict = none)
    (gs_CALLED : o_CALLED.data = .seq [Value.str "stop" t_CALLED_0, Value.str "take" t_CALLED_1, Value.str "tell" t_CALLED_2, Value.str "ask" t_CALLED_3, Value.str "askfar" t_CALLED_4, Value.str "go" t_CALLED_5, Value.str "gofar" t_CALLED_6, Value.str "set" t_CALLED_7, Value.str "here" t_CALLED_8, Value.str "copy" t_CALLED_9, Value.str "add" t_CALLED_10, Value.str "less" t_CALLED_11, Value.str "load" t_CALLED_12, Value.str "store" t_CALLED_13, Value.str "call" t_CALLED_14, Value.str "callfar" t_CALLED_15, Value.str "jump" t_CALLED_16].toArray n_CALLED)
    (g_USED : PySem.W.nsIn K mainGlobals "USED" = some (some (.ref q_USED)))
    (gl_USED : K.lookup q_USED = some o_USED)
    (gc_USED : o_USED.cls = .type "tuple")
    (gd_USED : o_USED.dict = none)
    (gs_USED : o_USED.data = .seq [Value.str "" t_USED_0, Value.str "x" t_USED_1, Value.str "x" t_USED_2, Value.str "d" t_USED_3, Value.str "" t_USED_4, Value.str "d" t_USED_5, Value.str "" t_USED_6, Value.str "x" t_USED_7, Value.str "xd" t_USED_8, Value.str "xy" t_USED_9, Value.str "xy" t_USED_10, Value.str "xy" t_USED_11, Value.str "xyd" t_USED_12, Value.str "xyd" t_USED_13, Value.str "d" t_USED_14, Value.str "" t_USED_15, Value.str "x" t_USED_16].toArray n_USED)
    (a_BadSum : PySem.W.nsIn K mainGlobals "BadSum" = some (some (.ref C_BadSum)))
    (i_BadSum : PySem.W.findIn K (.ref C_BadSum) "__init__" = some (some (.ref I_BadSum)))
    (ty_BadSum : PySem.W.typeIn K (.ref I_BadSum) = some (.type "function"))
    (l_BadSum : K.lookup I_BadSum = some ⟨ocBadSum, odBadSum, .func (PySem.W.fnOf "__init__" "BadSum.__init__" (defArgs (inS 8 0)) (defBody (inS 8 0)) (defScope (inS 8 0)) .none kVBadSum dcBadSum pmBadSum anBadSum cdBadSum ctBadSum), slBadSum⟩)
    (cc_BadSum : PySem.W.codeIn K cdBadSum "BadSum.__init__" = true)
    (k_BadSum : PySem.W.keepIn K (.ref I_BadSum) = true)
    (cl_BadSum : K.lookup C_BadSum = some (excClassObj nm_BadSum qn_BadSum C_BadSum N_BadSum bs_BadSum bm_BadSum true sn_BadSum sub_BadSum ab_BadSum col_BadSum dd_BadSum k0_BadSum k1_BadSum k2_BadSum k3_BadSum k5_BadSum "ValueError.__new__"))
    (ve_BadSum : PySem.HandSPX.refsVE bm_BadSum = true)
    (sa_BadSum : PySem.W.findIn K (.ref C_BadSum) "__setattr__" = some (some (.builtin "object.__setattr__")))
    (ex_BadSum : PySem.W.subIn K (.ref C_BadSum) (.type "BaseException") = some true)
    (tc_BadSum : PySem.W.typeIn K (.ref C_BadSum) = some (.type "type"))
    (kc_BadSum : PySem.W.keepIn K (.ref C_BadSum) = true)
    (xa_BadSum : PySem.W.findIn K (.ref C_BadSum) "__getattribute__" = some (some (.builtin "BaseException.__getattribute__")))
    (xg_BadSum : PySem.W.findIn K (.ref C_BadSum) "__getattr__" = some none)
    (xh_BadSum : PySem.W.hasDictIn K C_BadSum = true)
    (no_BadSum_thing : PySem.W.findIn K (.ref C_BadSum) "thing" = some none)
    (a_BadField : PySem.W.nsIn K mainGlobals "BadField" = some (some (.ref C_BadField)))
    (i_BadField : PySem.W.findIn K (.ref C_BadField) "__init__" = some (some (.ref I_BadField)))
    (ty_BadField : PySem.W.typeIn K (.ref I_BadField) = some (.type "function"))
    (l_BadField : K.lookup I_BadField = some ⟨ocBadField, odBadField, .func (PySem.W.fnOf "__init__" "BadField.__init__" (defArgs (inS 9 0)) (defBody (inS 9 0)) (defScope (inS 9 0)) .none kVBadField dcBadField pmBadField anBadField cdBadField ctBadField), slBadField⟩)
    (cc_BadField : PySem.W.codeIn K cdBadField "BadField.__init__" = true)
    (k_BadField : PySem.W.keepIn K (.ref I_BadField) = true)
    (cl_BadField : K.lookup C_BadField = some (excClassObj nm_BadField qn_BadField C_BadField N_BadField bs_BadField bm_BadField true sn_BadField sub_BadField ab_BadField col_BadField dd_BadField k0_BadField k1_BadField k2_BadField k3_BadField k5_BadField "ValueError.__new__"))
    (ve_BadField : PySem.HandSPX.refsVE bm_BadField = true)
    (sa_BadField : PySem.W.findIn K (.ref C_BadField) "__setattr__" = some (some (.builtin "object.__setattr__")))
    (ex_BadField : PySem.W.subIn K (.ref C_BadField) (.type "BaseException") = some true)
    (tc_BadField : PySem.W.typeIn K (.ref C_BadField) = some (.type "type"))
    (kc_BadField : PySem.W.keepIn K (.ref C_BadField) = true)
    (xa_BadField : PySem.W.findIn K (.ref C_BadField) "__getattribute__" = some (some (.builtin "BaseException.__getattribute__")))
    (xg_BadField : PySem.W.findIn K (.ref C_BadField) "__getattr__" = some none)
    (xh_BadField : PySem.W.hasDictIn K C_BadField = true)
    (no_BadField_name : PySem.W.findIn K (.ref C_BadField) "name" = some none)
    (m_BadSum_BadSum : PySem.W.subIn K (.ref C_BadSum) (.ref C_BadSum) = some true)
    (m_BadSum_BadField : PySem.W.subIn K (.ref C_BadSum) (.ref C_BadField) = some false)
    (m_BadField_BadSum : PySem.W.subIn K (.ref C_BadField) (.ref C_BadSum) = some false)
    (m_BadField_BadField : PySem.W.subIn K (.ref C_BadField) (.ref C_BadField) = some true) :
    Txt K mg (clsOf C_BadSum C_BadField) :=
  ⟨dfn_mk X G a0 l0 c0_ k0 (fun _ _ _ _ _ _ us hl => match us, hl with | [_], _ => rfl),
  dfn_mk X G a1 l1 c1_ k1 (fun _ _ _ _ _ _ us hl => match us, hl with | [_], _ => rfl),
  dfn_mk X G a2 l2 c2_ k2 (fun _ _ _ _ _ _ us hl => match us, hl with | [_], _ => rfl),
  dfn_mk X G a3 l3 c3_ k3 (fun _ _ _ _ _ _ us hl => match us, hl with | [_], _ => rfl),
  dfn_mk X G a4 l4 c4_ k4 (fun _ _ _ _ _ _ us hl => match us, hl with | [_], _ => rfl),
  dfn_mk X G a5 l5 c5_ k5 (fun _ _ _ _ _ _ us hl => match us, hl with | [_, _], _ => rfl),
  dfn_mk X G a6 l6 c6_ k6 (fun _ _ _ _ _ _ us hl => match us, hl with | [_], _ => rfl),
  dfn_mk X G a7 l7 c7_ k7 (fun _ _ _ _ _ _ us hl => match us, hl with | [_], _ => rfl),
  dfn_mk X G a8 l8 c8_ k8 (fun _ _ _ _ _ _ us hl => match us, hl with | [_], _ => rfl),
  dfn_mk X G a9 l9 c9_ k9 (fun _ _ _ _ _ _ us hl => match us, hl with | [_, _], _ => rfl),
  dfnD_mk X G a10 l10 c10_ k10 lT10 oT10_ (.cons ⟨_, rfl⟩ (.cons ⟨_, rfl⟩ (.cons ⟨_, rfl⟩ .nil))) (by simp),
  dfn_mk X G a11 l11 c11_ k11 (fun _ _ _ _ _ _ us hl => match us, hl with | [_], _ => rfl),
  dfn_mk X G a12 l12 c12_ k12 (fun _ _ _ _ _ _ us hl => match us, hl with | [_], _ => rfl),
  dfn_mk X G a13 l13 c13_ k13 (fun _ _ _ _ _ _ us hl => match us, hl with | [_], _ => rfl),
  dfn_mk X G a14 l14 c14_ k14 (fun _ _ _ _ _ _ us hl => match us, hl with | [_], _ => rfl),
  dfn_mk X G a15 l15 c15_ k15 (fun _ _ _ _ _ _ us hl => match us, hl with | [_, _], _ => rfl),
  dfn_mk X G a16 l16 c16_ k16 (fun _ _ _ _ _ _ us hl => match us, hl with | [_], _ => rfl),
  dfn_mk X G a17 l17 c17_ k17 (fun _ _ _ _ _ _ us hl => match us, hl with | [_, _], _ => rfl),
  dfn_mk X G a18 l18 c18_ k18 (fun _ _ _ _ _ _ us hl => match us, hl with | [_, _], _ => rfl),
  dfn_mk X G a19 l19 c19_ k19 (fun _ _ _ _ _ _ us hl => match us, hl with | [_], _ => rfl),
  dfn_mk X G a20 l20 c20_ k20 (fun _ _ _ _ _ _ us hl => match us, hl with | [_], _ => rfl),
  dfn_mk X G a21 l21 c21_ k21 (fun _ _ _ _ _ _ us hl => match us, hl with | [_, _], _ => rfl),
  dfn_mk X G a22 l22 c22_ k22 (fun _ _ _ _ _ _ us hl => match us, hl with | [_], _ => rfl),
  dfn_mk X G a23 l23 c23_ k23 (fun _ _ _ _ _ _ us hl => match us, hl with | [_, _, _, _], _ => rfl),
  dfn_mk X G a24 l24 c24_ k24 (fun _ _ _ _ _ _ us hl => match us, hl with | [_], _ => rfl),
  PySem.W.mg_none_of X G z_len,
  PySem.W.mg_none_of X G z_int,
  PySem.W.mg_none_of X G z_isinstance,
  PySem.W.mg_none_of X G z_bool,
  PySem.W.mg_none_of X G z_str,
  PySem.W.mg_none_of X G z_list,
  PySem.W.mg_none_of X G z_tuple,
  PySem.W.mg_none_of X G z_all,
  PySem.W.mg_none_of X G z_any,
  PySem.W.mg_none_of X G z_sorted,
  PySem.W.mg_none_of X G z_range,
  gc_str X G g_LETTERS,
  gc_int X G g_LONGEST,
  g_of_k (gc_tup (xs := [.str "piece", .str "name", .str "in"]) X G g_KINDS gl_KINDS gc_KINDS gd_KINDS gs_KINDS (.cons ⟨_, rfl⟩ (.cons ⟨_, rfl⟩ (.cons ⟨_, rfl⟩ .nil))) (fun _ => (.cons (.str _) (.cons (.str _) (.cons (.str _) .nil)))) (Nat.le_of_ble_eq_true rfl)),
  gc_int X G g_CODES,
  gc_int X G g_FIELDS,
  gc_int X G g_STEP,
  g_of_k (gc_tup (xs := [.str "stop", .str "take", .str "tell", .str "ask", .str "askfar", .str "go", .str "gofar", .str "set", .str "here", .str "copy", .str "add", .str "less", .str "load", .str "store", .str "call", .str "callfar", .str "jump"]) X G g_CALLED gl_CALLED gc_CALLED gd_CALLED gs_CALLED (.cons ⟨_, rfl⟩ (.cons ⟨_, rfl⟩ (.cons ⟨_, rfl⟩ (.cons ⟨_, rfl⟩ (.cons ⟨_, rfl⟩ (.cons ⟨_, rfl⟩ (.cons ⟨_, rfl⟩ (.cons ⟨_, rfl⟩ (.cons ⟨_, rfl⟩ (.cons ⟨_, rfl⟩ (.cons ⟨_, rfl⟩ (.cons ⟨_, rfl⟩ (.cons ⟨_, rfl⟩ (.cons ⟨_, rfl⟩ (.cons ⟨_, rfl⟩ (.cons ⟨_, rfl⟩ (.cons ⟨_, rfl⟩ .nil))))))))))))))))) (fun _ => (.cons (.str _) (.cons (.str _) (.cons (.str _) (.cons (.str _) (.cons (.str _) (.cons (.str _) (.cons (.str _) (.cons (.str _) (.cons (.str _) (.cons (.str _) (.cons (.str _) (.cons (.str _) (.cons (.str _) (.cons (.str _) (.cons (.str _) (.cons (.str _) (.cons (.str _) .nil)))))))))))))))))) (Nat.le_of_ble_eq_true rfl)),
  g_of_k (gc_tup (xs := [.str "", .str "x", .str "x", .str "d", .str "", .str "d", .str "", .str "x", .str "xd", .str "xy", .str "xy", .str "xy", .str "xyd", .str "xyd", .str "d", .str "", .str "x"]) X G g_USED gl_USED gc_USED gd_USED gs_USED (.cons ⟨_, rfl⟩ (.cons ⟨_, rfl⟩ (.cons ⟨_, rfl⟩ (.cons ⟨_, rfl⟩ (.cons ⟨_, rfl⟩ (.cons ⟨_, rfl⟩ (.cons ⟨_, rfl⟩ (.cons ⟨_, rfl⟩ (.cons ⟨_, rfl⟩ (.cons ⟨_, rfl⟩ (.cons ⟨_, rfl⟩ (.cons ⟨_, rfl⟩ (.cons ⟨_, rfl⟩ (.cons ⟨_, rfl⟩ (.cons ⟨_, rfl⟩ (.cons ⟨_, rfl⟩ (.cons ⟨_, rfl⟩ .nil))))))))))))))))) (fun _ => (.cons (.str _) (.cons (.str _) (.cons (.str _) (.cons (.str _) (.cons (.str _) (.cons (.str _) (.cons (.str _) (.cons (.str _) (.cons (.str _) (.cons (.str _) (.cons (.str _) (.cons (.str _) (.cons (.str _) (.cons (.str _) (.cons (.str _) (.cons (.str _) (.cons (.str _) .nil)))))))))))))))))) (Nat.le_of_ble_eq_true rfl)),
  gc_tup (xs := [.str "piece", .str "name", .str "in"]) X G g_KINDS gl_KINDS gc_KINDS gd_KINDS gs_KINDS (.cons ⟨_, rfl⟩ (.cons ⟨_, rfl⟩ (.cons ⟨_, rfl⟩ .nil))) (fun _ => (.cons (.str _) (.cons (.str _) (.cons (.str _) .nil)))) (Nat.le_of_ble_eq_true rfl),
  gc_tup (xs := [.str "stop", .str "take", .str "tell", .str "ask", .str "askfar", .str "go", .str "gofar", .str "set", .str "here", .str "copy", .str "add", .str "less", .str "load", .str "store", .str "call", .str "callfar", .str "jump"]) X G g_CALLED gl_CALLED gc_CALLED gd_CALLED gs_CALLED (.cons ⟨_, rfl⟩ (.cons ⟨_, rfl⟩ (.cons ⟨_, rfl⟩ (.cons ⟨_, rfl⟩ (.cons ⟨_, rfl⟩ (.cons ⟨_, rfl⟩ (.cons ⟨_, rfl⟩ (.cons ⟨_, rfl⟩ (.cons ⟨_, rfl⟩ (.cons ⟨_, rfl⟩ (.cons ⟨_, rfl⟩ (.cons ⟨_, rfl⟩ (.cons ⟨_, rfl⟩ (.cons ⟨_, rfl⟩ (.cons ⟨_, rfl⟩ (.cons ⟨_, rfl⟩ (.cons ⟨_, rfl⟩ .nil))))))))))))))))) (fun _ => (.cons (.str _) (.cons (.str _) (.cons (.str _) (.cons (.str _) (.cons (.str _) (.cons (.str _) (.cons (.str _) (.cons (.str _) (.cons (.str _) (.cons (.str _) (.cons (.str _) (.cons (.str _) (.cons (.str _) (.cons (.str _) (.cons (.str _) (.cons (.str _) (.cons (.str _) .nil)))))))))))))))))) (Nat.le_of_ble_eq_true rfl),
  gc_tup (xs := [.str "", .str "x", .str "x", .str "d", .str "", .str "d", .str "", .str "x", .str "xd", .str "xy", .str "xy", .str "xy", .str "xyd", .str "xyd", .str "d", .str "", .str "x"]) X G g_USED gl_USED gc_USED gd_USED gs_USED (.cons ⟨_, rfl⟩ (.cons ⟨_, rfl⟩ (.cons ⟨_, rfl⟩ (.cons ⟨_, rfl⟩ (.cons ⟨_, rfl⟩ (.cons ⟨_, rfl⟩ (.cons ⟨_, rfl⟩ (.cons ⟨_, rfl⟩ (.cons ⟨_, rfl⟩ (.cons ⟨_, rfl⟩ (.cons ⟨_, rfl⟩ (.cons ⟨_, rfl⟩ (.cons ⟨_, rfl⟩ (.cons ⟨_, rfl⟩ (.cons ⟨_, rfl⟩ (.cons ⟨_, rfl⟩ (.cons ⟨_, rfl⟩ .nil))))))))))))))))) (fun _ => (.cons (.str _) (.cons (.str _) (.cons (.str _) (.cons (.str _) (.cons (.str _) (.cons (.str _) (.cons (.str _) (.cons (.str _) (.cons (.str _) (.cons (.str _) (.cons (.str _) (.cons (.str _) (.cons (.str _) (.cons (.str _) (.cons (.str _) (.cons (.str _) (.cons (.str _) .nil)))))))))))))))))) (Nat.le_of_ble_eq_true rfl),
  PySem.W.mg_of X G a_BadSum,
  ⟨⟨I_BadSum, _, fun_mk (st := (inS 8 0)) l_BadSum cc_BadSum k_BadSum, i_BadSum, ty_BadSum, (fun_mk (st := (inS 8 0)) l_BadSum cc_BadSum k_BadSum).binds (fun _ _ _ _ _ _ us hl => match us, hl with | [_, _], _ => rfl)⟩, ⟨⟨_, _, _, _, _, _, _, _, _, _, _, _, _, _, _, cl_BadSum, ve_BadSum⟩, sa_BadSum, ex_BadSum, tc_BadSum, kc_BadSum⟩, (by intro f hf; simp only [List.mem_cons, List.mem_nil_iff, or_false] at hf; rcases hf with rfl <;> assumption), ⟨xa_BadSum, xg_BadSum, ex_BadSum, xh_BadSum⟩⟩,
  PySem.W.mg_of X G a_BadField,
  ⟨⟨I_BadField, _, fun_mk (st := (inS 9 0)) l_BadField cc_BadField k_BadField, i_BadField, ty_BadField, (fun_mk (st := (inS 9 0)) l_BadField cc_BadField k_BadField).binds (fun _ _ _ _ _ _ us hl => match us, hl with | [_, _], _ => rfl)⟩, ⟨⟨_, _, _, _, _, _, _, _, _, _, _, _, _, _, _, cl_BadField, ve_BadField⟩, sa_BadField, ex_BadField, tc_BadField, kc_BadField⟩, (by intro f hf; simp only [List.mem_cons, List.mem_nil_iff, or_false] at hf; rcases hf with rfl <;> assumption), ⟨xa_BadField, xg_BadField, ex_BadField, xh_BadField⟩⟩,
  (by
    intro c hc y hy
    simp only [excs, List.mem_cons, List.mem_nil_iff, or_false] at hc hy
    rcases hc with rfl | rfl <;> rcases hy with rfl | rfl
    · exact exm_mk cl_BadField ex_BadField tc_BadField m_BadSum_BadField
    · exact exm_mk cl_BadSum ex_BadSum tc_BadSum m_BadSum_BadSum
    · exact exm_mk cl_BadField ex_BadField tc_BadField m_BadField_BadField
    · exact exm_mk cl_BadSum ex_BadSum tc_BadSum m_BadField_BadSum),
  (by
    intro y hy
    simp only [List.mem_cons, List.mem_nil_iff, or_false] at hy
    rcases hy with rfl | rfl
    · exact ⟨PySem.W.mg_of X G a_BadField, by decide +kernel, by decide, ⟨xa_BadField, xg_BadField, ex_BadField, xh_BadField⟩, (by intro f hf; simp only [List.mem_cons, List.mem_nil_iff, or_false] at hf; rcases hf with rfl <;> assumption), by decide⟩
    · exact ⟨PySem.W.mg_of X G a_BadSum, by decide +kernel, by decide, ⟨xa_BadSum, xg_BadSum, ex_BadSum, xh_BadSum⟩, (by intro f hf; simp only [List.mem_cons, List.mem_nil_iff, or_false] at hf; rcases hf with rfl <;> assumption), by decide⟩)⟩
end P

namespace P
open PySem PySem.Spec PyProof.Rows L2 DL LamX
def tbOf (c1 P1 c2 P2 : Addr) : Str → Addr × Addr := fun x => if x = "law" then (c2, P2) else (c1, P1)
theorem law_at {w : World} {K : PySem.W.Frag} {h : Heap} {mg : Str → Option Value} {cls : Str → Addr} {fa f c1 P1 c2 P2 : Addr} {oc : Value} {od an : Option Addr} {osl : Array (Option Value)} {kV doc pm ct : Value}
    (X : K.In h) (G : h.Ns mainGlobals mg) (T : Txt K mg cls) (hfa : mg "law" = some (.ref fa)) (a : PySem.W.nsIn K mainGlobals "law" = some (some (.ref f)))
    (lk : K.lookup f = some ⟨oc, od, .func (PySem.W.fnOf "law" "law" (defArgs (topS 42)) (defBody (topS 42)) (defScope (topS 42)) .none kV doc pm an (.ref c2) ct), osl⟩) (hc : PySem.W.codeIn K (.ref c2) "law" = true)
    (D1 : DfnL K mg "_law_met_two" (topS 41) ["_law_odd"] c1) (t1 : h.get? P1 = some (PySem.W.tabObj #[])) (t2 : h.get? P2 = some (PySem.W.tabObj #[])) (n1 : K.lookup P1 = none) (n2 : K.lookup P2 = none)
    (h1 : PySem.W.codeHdIn K c1 P1 = true) (h2 : PySem.W.codeHdIn K c2 P2 = true) (ne : P1 ≠ P2) (hl : ∀ ns : List Int, ns.length ≤ 63 → F_law [.scr ns] = .ok (.bl true)) :
    LawAtS PySem.Challenge.rw_loadanywhere_k02_code_words w K (L2.CX Pr w) 10 63 "_law_script" mg fa h := by
  have e := hfa.symm.trans (PySem.W.mg_of X G a)
  cases e
  have e1 : tbOf c1 P1 c2 P2 "law" = (c2, P2) := if_pos rfl
  have e2 : tbOf c1 P1 c2 P2 "_law_met_two" = (c1, P1) := if_neg (by decide)
  refine ⟨PySem.W.fnOf "law" "law" (defArgs (topS 42)) (defBody (topS 42)) (defScope (topS 42)) .none kV doc pm an (.ref c2) ct, [(c1, P1), (c2, P2)], spT K cls (tabL (tbOf c1 P1 c2 P2)) F_law, ?_, ?_, ?_, fun s v => .of_eq rfl, fun H a ns hn _ hT hS => ?_, fun base kb nb tb => ?_⟩
  · intro p hp
    simp only [List.mem_cons, List.mem_nil_iff, or_false] at hp
    rcases hp with rfl | rfl
    · exact t1
    · exact t2
  · intro p hp
    simp only [List.mem_cons, List.mem_nil_iff, or_false] at hp
    rcases hp with rfl | rfl
    · exact n1
    · exact n2
  · intro p hp
    simp only [List.mem_cons, List.mem_nil_iff, or_false] at hp
    rcases hp with rfl | rfl
    · exact PySem.W.codeHd_of_K X h1
    · exact PySem.W.codeHd_of_K X h2
  · refine spT_law (fun p hp => ?_) hS (hl ns hn)
    simp only [tabL, List.mem_cons, List.mem_nil_iff, or_false] at hp
    rcases hp with rfl | rfl
    · rw [e2]; exact hT (c1, P1) (by simp)
    · rw [e1]; exact hT (c2, P2) (by simp)
  · have B : TxtB K base mg (tbOf c1 P1 c2 P2) := by
      refine ⟨by rw [e2]; exact D1, by rw [e2]; exact tb (c1, P1) (by simp), by rw [e1]; exact tb (c2, P2) (by simp), fun P n p hp hP hn => ?_⟩
      simp only [tabL, List.mem_cons, List.mem_nil_iff, or_false] at hp hn
      rcases hp with rfl | rfl <;> rcases hn with z | z <;> obtain ⟨z1, z2⟩ := Prod.mk.inj z
      · exact z2.symm
      · rw [e1] at z1; simp only [e2] at hP; exact absurd (hP.trans z1) ne
      · rw [e2] at z1; simp only [e1] at hP; exact absurd (z1.symm.trans hP.symm) ne
      · exact z2.symm
    have b := body_law (w := w) (base := base) T B
    rw [e1] at b
    exact fnT1 N_law ["_law_script"] M_law 1 _ 9 rfl rfl lk hc sc_law b
end P

namespace P
open PySem PyProof.Rows L2 DL
def PoolOk (n : Nat) (l : List D) : Prop := ∃ a b c : Int, l = [.int a, .int b, .int c] ∧ 0 ≤ b ∧ b < 1000000007 ∧ 0 ≤ c ∧ c ≤ n
theorem take_ok {n : Nat} {l : List D} {many : Int} (h : PoolOk n l) (hn : n < 1000000) (h1 : 0 < many) (h2 : many < 1073741824) :
    ∃ d l', F_law_take l [.int many] = .ok (.int d) l' ∧ 0 ≤ d ∧ d < many ∧ PoolOk (n + 1) l' := by
  obtain ⟨a, b, c, rfl, hb, hb', hc, hc'⟩ := h
  have hp : ((b + 7919 * (c + 1) + 104729).natAbs < 2 ^ 64) := by omega
  by_cases ha : 0 < a
  · refine ⟨a % many, [.int (a / many), .int b, .int c], ?_, Int.emod_nonneg _ (by omega), Int.emod_lt_of_pos _ h1, _, _, _, rfl, hb, hb', hc, by omega⟩
    simp [F_law_take, runQ, M_law_take, mIxO, sSetI, atI, ixN, ha, h1, h2]
  · refine ⟨(((b + 7919 * (c + 1) + 104729) ^ 5 % 2147483647 + (c + 1)) * 40692) % 2147483629 % many, [.int a, .int b, .int (c + 1)], ?_, Int.emod_nonneg _ (by omega), Int.emod_lt_of_pos _ h1, _, _, _, rfl, hb, hb', by omega, by omega⟩
    simp [F_law_take, runQ, M_law_take, mIxO, sSetI, atI, ixN, ha, h1, h2, hp]
theorem atI_mem {α : Type} {l : List α} {d : Int} (h0 : 0 ≤ d) (h1 : d < l.length) : ∃ x, atI l d = some x ∧ x ∈ l := by
  have h : d.toNat < l.length := by omega
  refine ⟨l[d.toNat], ?_, List.getElem_mem h⟩
  simp [atI, ixN, h0, h1, h]
theorem one_ok {n : Nat} {l things : List D} (h : PoolOk n l) (hn : n < 1000000) (h1 : 0 < things.length) (h2 : things.length < 1073741824) :
    ∃ x l', F_law_one l [.lst things] = .ok x l' ∧ x ∈ things ∧ PoolOk (n + 1) l' := by
  obtain ⟨d, l', e, h0, h1', p⟩ := take_ok (many := things.length) h hn (by omega) (by omega)
  obtain ⟨x, ex, hx⟩ := atI_mem h0 h1'
  refine ⟨x, l', ?_, hx, p⟩
  simp [F_law_one, runQ, M_law_one, mCallP, e, ex]
theorem cell_ok (ns : List Int) (t : Nat) : ∃ c, F_law_cell [.scr ns, .int t] = .ok (.int c) := by
  by_cases h : t < ns.length
  · obtain ⟨x, e, _⟩ := atI_mem (l := ns) (d := t) (by omega) (by omega)
    exact ⟨x, by simp [F_law_cell, runF, M_law_cell, h, e]⟩
  · exact ⟨0, by simp [F_law_cell, runF, M_law_cell, h]⟩
theorem pool_ok (c : Int) : ∃ l, F_law_pool [.int c] = .own l ∧ PoolOk 0 l := by
  by_cases h : c < 0
  · by_cases h2 : 1000000000000000000 ≤ -(2 * c) - 1
    · refine ⟨[.int (-(2 * c) - 1), .int ((-(2 * c) - 1) % 1000000007), .int 0], ?_, _, _, _, rfl, Int.emod_nonneg _ (by omega), Int.emod_lt_of_pos _ (by omega), by omega, by omega⟩
      simp [F_law_pool, runF, M_law_pool, mShort, short, sRetO, h, h2]
    · refine ⟨[.int 0, .int ((-(2 * c) - 1) % 1000000007), .int 0], ?_, _, _, _, rfl, Int.emod_nonneg _ (by omega), Int.emod_lt_of_pos _ (by omega), by omega, by omega⟩
      simp [F_law_pool, runF, M_law_pool, mShort, short, sRetO, h, h2]
  · by_cases h2 : 1000000000000000000 ≤ 2 * c
    · refine ⟨[.int (2 * c), .int ((2 * c) % 1000000007), .int 0], ?_, _, _, _, rfl, Int.emod_nonneg _ (by omega), Int.emod_lt_of_pos _ (by omega), by omega, by omega⟩
      simp [F_law_pool, runF, M_law_pool, mShort, short, sRetO, h, h2]
    · refine ⟨[.int 0, .int ((2 * c) % 1000000007), .int 0], ?_, _, _, _, rfl, Int.emod_nonneg _ (by omega), Int.emod_lt_of_pos _ (by omega), by omega, by omega⟩
      simp [F_law_pool, runF, M_law_pool, mShort, short, sRetO, h, h2]
/-! coded -/
theorem isint_int (i : Int) : F_is_integer [.int i] = .ok (.bl true) := rfl
def intB : D → Bool
  | .int _ => true
  | _ => false
def noScr : D → Bool
  | .scr _ => false
  | _ => true
theorem isint_ok (d : D) (h : noScr d = true) : F_is_integer [d] = .ok (.bl (intB d)) := by
  cases d <;> first | rfl | cases h
def belowB (m : Int) : D → Bool
  | .int i => decide (0 ≤ i) && decide (i < m)
  | _ => false
theorem below_ok (d : D) (m : Int) (h : noScr d = true) : F_is_below [d, .int m] = .ok (.bl (belowB m d)) := by
  cases d with
  | int i => by_cases h0 : 0 ≤ i <;> simp [F_is_below, runF, M_is_below, isint_int, belowB, mCall, h0]
  | scr l => cases h
  | _ => rfl
def badOf (c x y d : D) : Option Str := if belowB 32 c then (if belowB 8 x then (if belowB 8 y then (if intB d then none else some "d") else some "y") else some "x") else some "code"
theorem belowB_int {m : Int} {d : D} (h : belowB m d = true) : ∃ i, d = .int i ∧ 0 ≤ i ∧ i < m := by
  cases d with
  | int i => simp [belowB] at h; exact ⟨i, rfl, h⟩
  | _ => cases h
theorem intB_int {d : D} (h : intB d = true) : ∃ i, d = .int i := by
  cases d with
  | int i => exact ⟨i, rfl⟩
  | _ => cases h
theorem coded_bad {c x y d : D} {s : Str} (h1 : noScr c = true) (h2 : noScr x = true) (h3 : noScr y = true) (h4 : noScr d = true) (h : badOf c x y d = some s) : F_coded [c, x, y, d] = .exc "BadField" [("name", .str s)] := by
  unfold badOf at h
  simp only [F_coded, runF, M_coded]
  by_cases b1 : belowB 32 c
  · rw [if_pos b1] at h
    by_cases b2 : belowB 8 x
    · rw [if_pos b2] at h
      by_cases b3 : belowB 8 y
      · rw [if_pos b3] at h
        by_cases b4 : intB d
        · rw [if_pos b4] at h; cases h
        · rw [if_neg b4] at h; cases h
          simp [mCall, below_ok, isint_ok, h1, h2, h3, h4, b1, b2, b3, b4, sRaise]
      · rw [if_neg b3] at h; cases h
        simp [mCall, below_ok, isint_ok, h1, h2, h3, h4, b1, b2, b3, sRaise]
    · rw [if_neg b2] at h; cases h
      simp [mCall, below_ok, isint_ok, h1, h2, h3, h4, b1, b2, sRaise]
  · rw [if_neg b1] at h; cases h
    simp [mCall, below_ok, isint_ok, h1, h2, h3, h4, b1, sRaise]
theorem coded_int (c x y d : Int) (h1 : belowB 32 (.int c) = true) (h2 : belowB 8 (.int x) = true) (h3 : belowB 8 (.int y) = true) : F_coded [.int c, .int x, .int y, .int d] = .ok (.int (c + 32 * x + 256 * y + 2048 * d)) := by
  have b1 : F_is_below [.int c, .int 32] = .ok (.bl true) := by rw [below_ok _ _ rfl, h1]
  have b2 : F_is_below [.int x, .int 8] = .ok (.bl true) := by rw [below_ok _ _ rfl, h2]
  have b3 : F_is_below [.int y, .int 8] = .ok (.bl true) := by rw [below_ok _ _ rfl, h3]
  simp [F_coded, runF, M_coded, mCall, b1, b2, b3, isint_int]
theorem bad_ok {c x y d : D} (h1 : noScr c = true) (h2 : noScr x = true) (h3 : noScr y = true) (h4 : noScr d = true) : F_law_first_bad [c, x, y, d] = .ok (match badOf c x y d with
    | none => .non
    | some s => .str s) := by
  have e : ∀ (i : Nat) (d : D) (m : Int) (r : DEnv), r[i]? = some (.dat d) → noScr d = true → (mOr (mNot (mUn (gIsi .int) (mV i))) (mOr (mUn (gIsi .bool) (mV i)) (mNot (mChain iLe iLt (mC (.int 0)) (mV i) (mC (.int m)))))) r = .ok (.bl (!belowB m d)) r := by
    intro i d m r hi hd
    cases d with
    | int j => by_cases h0 : 0 ≤ j <;> simp [hi, gIsi, isT, belowB, h0]
    | scr l => cases hd
    | _ => simp [hi, gIsi, isT, belowB]
  have e4 : ∀ (r : DEnv), r[3]? = some (.dat d) → (mAnd (mUn (gIsi .int) (mV 3)) (mNot (mUn (gIsi .bool) (mV 3)))) r = .ok (.bl (intB d)) r := by
    intro r hi
    cases d with
    | scr l => cases h4
    | _ => simp [hi, gIsi, isT, intB]
  have e1 := e 0 c 32 [.dat c, .dat x, .dat y, .dat d] rfl h1
  have e2 := e 1 x 8 [.dat c, .dat x, .dat y, .dat d] rfl h2
  have e3 := e 2 y 8 [.dat c, .dat x, .dat y, .dat d] rfl h3
  have e4 := e4 [.dat c, .dat x, .dat y, .dat d] rfl
  show (match M_law_first_bad [.dat c, .dat x, .dat y, .dat d] with
    | .rt d _ => FR.ok d
    | .nx _ => .ok .non
    | .rtO l _ => .own l
    | .exc c fs => .exc c fs
    | _ => .bad) = _
  unfold badOf M_law_first_bad
  cases b1 : belowB 32 c <;> cases b2 : belowB 8 x <;> cases b3 : belowB 8 y <;> cases b4 : intB d <;> rw [b1] at e1 <;> rw [b2] at e2 <;> rw [b3] at e3 <;> rw [b4] at e4 <;> simp only [ev_sSeq, ev_sIf, ev_sRet, ev_sNil, ev_mIf, ev_mC, ev_bind_ok, e1, e2, e3, e4, Bool.not_true, Bool.not_false] <;> rfl
end P

namespace P
open PySem PyProof.Rows L2 DL
abbrev uA : D := .tup [.str "piece", .str "a"]
abbrev uB : D := .tup [.str "piece", .str "b"]
def pt (a b : Int) : List D := (if a = 0 then [] else [.tup [uA, .int a]]) ++ (if b = 0 then [] else [.tup [uB, .int b]])
def mA : List Int := [0, 2048, -2048, 4096, 1, 32]
def mB : List Int := [0, -2048]
theorem mem_mA {a : Int} (h : a ∈ mA) : a = 0 ∨ a = 2048 ∨ a = -2048 ∨ a = 4096 ∨ a = 1 ∨ a = 32 := by simpa [mA] using h
theorem mem_mB {b : Int} (h : b ∈ mB) : b = 0 ∨ b = -2048 := by simpa [mB] using h
theorem tot (n : Int) {a b : Int} (ha : a ∈ mA) (hb : b ∈ mB) : F_law_total [.int n, .lst [.tup [uA, .int a], .tup [uB, .int b]]] = .ok (.tup [.int n, .tup (pt a b)]) := by
  rcases mem_mA ha with rfl | rfl | rfl | rfl | rfl | rfl <;> rcases mem_mB hb with rfl | rfl <;> kernel_rfl
theorem som (n : Int) {a b : Int} (ha : a ∈ mA) (hb : b ∈ mB) : F_sum_of [.tup [.int n, .tup (pt a b)]] = .ok (.tup [.int n, .tup (pt a b)]) := by
  rcases mem_mA ha with rfl | rfl | rfl | rfl | rfl | rfl <;> rcases mem_mB hb with rfl | rfl <;> kernel_rfl
def odd (a : Int) : Bool := a == 1 || a == 32
def farL (a b : Int) : List D := (if a = 0 then [] else [.tup [uA, .int (a / 2048)]]) ++ (if b = 0 then [] else [.tup [uB, .int (b / 2048)]])
def dOf (n a b : Int) : D := if a = 0 ∧ b = 0 then .int (n / 2048) else .tup [.int (n / 2048), .tup (farL a b)]
theorem fie (n : Int) {a b : Int} (ha : a ∈ mA) (hb : b ∈ mB) : F_fields_in [.tup [.int n, .tup (pt a b)]] = .ok (if odd a then .non else .tup [.int (n % 32), .int (n / 32 % 8), .int (n / 256 % 8), dOf n a b]) := by
  rcases mem_mA ha with rfl | rfl | rfl | rfl | rfl | rfl <;> rcases mem_mB hb with rfl | rfl <;> kernel_rfl
def usedL : List Str := ["", "x", "x", "d", "", "d", "", "x", "xd", "xy", "xy", "xy", "xyd", "xyd", "d", "", "x"]
def callL : List Str := ["stop", "take", "tell", "ask", "askfar", "go", "gofar", "set", "here", "copy", "add", "less", "load", "store", "call", "callfar", "jump"]
def has (c : Str) (q : Int) : Bool := !(Builtin.Str.occurrences (usedL.getD q.toNat "") c 0 (usedL.getD q.toNat "").length 1).isEmpty
theorem atS {l : List Str} {q : Int} (h0 : 0 ≤ q) (h1 : q < l.length) : atI (l.map D.str) q = some (.str (l.getD q.toNat "")) := by
  have h : q.toNat < l.length := by omega
  simp [atI, ixN, h0, h1, h]
def cleanI (q x y : Int) (d : D) (dz : Bool) : D := if 17 ≤ q then .non else if (!has "x" q && !(x == 0)) || (!has "y" q && !(y == 0)) || (!has "d" q && !dz) then .non else .tup [.str (callL.getD q.toNat ""), .int x, .int y, d]
theorem ins_eval {w d : D} {q x y : Int} {dz : Bool} (h : F_fields_in [w] = .ok (.tup [.int q, .int x, .int y, d])) (hd : gNe d (.int 0) = some (.bl (!dz))) (h0 : 0 ≤ q) (h1 : q < 32) : F_instruction_in [w] = .ok (cleanI q x y d dz) := by
  have e1 : c_USED = .cst (usedL.map D.str) := rfl
  have e2 : c_CALLED = .cst (callL.map D.str) := rfl
  unfold cleanI
  by_cases hq : 17 ≤ q
  · simp [F_instruction_in, runF, M_instruction_in, mCall, h, gIsN, atI, ixN, hq]
  · have u1 := atS (l := usedL) (q := q) h0 (by show q < 17; omega)
    have u2 := atS (l := callL) (q := q) h0 (by show q < 17; omega)
    have l2 : callL.length = 17 := rfl
    obtain ⟨u, eu⟩ : ∃ u, u = usedL.getD q.toNat "" := ⟨_, rfl⟩
    obtain ⟨v, ev⟩ : ∃ v, v = callL.getD q.toNat "" := ⟨_, rfl⟩
    have sx : ∀ c, sNotIn (.str c) (.str u) = some (.bl (!has c q)) := fun c => by rw [eu]; rfl
    rw [← eu] at u1
    rw [← ev] at u2 ⊢
    clear eu ev
    simp only [F_instruction_in, runF, M_instruction_in, e1, e2]
    cases hx : has "x" q <;> cases hy : has "y" q <;> cases hd' : has "d" q <;> cases hdz : dz <;> cases zx : (x == 0) <;> cases zy : (y == 0) <;> rw [hdz] at hd <;> simp [mCall, h, gIsN, hq, sAsgT, gTup2, gsCons, gsNil, gN, u1, u2, sx, hx, hy, hd', hd, hdz, zx, zy, l2]
abbrev cA : ME := (mAgs (b1 gAny) (aCons (mFrz (mLc (mSeq (mV 5)) (gTup2 2 (gsCons (gN 10) (gsCons (gN 11) gsNil))) mYes (mOp gNe (mOp iMod (mV 11) (mC (.int 2048))) (mC (.int 0))) [10, 11])) aNil))
abbrev cF : ME := (mAgs (b1 gTupOf) (aCons (mFrz (mLc (mSeq (mV 5)) (gTup2 2 (gsCons (gN 10) (gsCons (gN 11) gsNil))) mYes (mAgs gTupD (aCons (mV 10) (aCons (mOp iDiv (mV 11) (mC (.int 2048))) aNil))) [10, 11])) aNil))
def toldC (q x y d : Int) (far : List D) (fz : Bool) : D := if 17 ≤ q then .non else if (!has "x" q && !(x == 0)) || (!has "y" q && !(y == 0)) || (!has "d" q && (!(d == 0) || !fz)) then .non else .tup [.str (callL.getD q.toNat ""), .int x, .int y, .tup [.int d, .tup far]]
theorem row_gen {parts far : List D} {n q x y d : Int} {fz : Bool} (h0 : 0 ≤ q) (h1 : q < 32) (hq : n % 32 = q) (hx : n / 32 % 8 = x) (hy : n / 256 % 8 = y) (hd : n / 2048 = d) (hz : gNe (.tup far) (.tup []) = some (.bl (!fz)))
    (hA : ∀ s0 s1 s2 s3 s4 s6 s7 s8 s9, cA [s0, s1, s2, s3, s4, .dat (.tup parts), s6, s7, s8, s9, .un, .un] = .ok (.bl false) [s0, s1, s2, s3, s4, .dat (.tup parts), s6, s7, s8, s9, .un, .un])
    (hF : ∀ s0 s1 s2 s3 s4 s6 s7 s8 s9, cF [s0, s1, s2, s3, s4, .dat (.tup parts), s6, s7, s8, s9, .un, .un] = .ok (.tup far) [s0, s1, s2, s3, s4, .dat (.tup parts), s6, s7, s8, s9, .un, .un]) :
    F_law_row [.tup [.int n, .tup parts]] = .ok (toldC q x y d far fz) := by
  unfold toldC
  have hq' : (16 < q) ↔ 17 ≤ q := by omega
  by_cases hq : 17 ≤ q
  · simp [F_law_row, runF, M_law_row, lAdd, sAsgT, gTup2, gsCons, gsNil, gN, ↓hA, ↓hF, *]
  · have u1 := atS (l := usedL) (q := q) h0 (by show q < 17; omega)
    have u2 := atS (l := callL) (q := q) h0 (by show q < 17; omega)
    obtain ⟨u, eu⟩ : ∃ u, u = usedL.getD q.toNat "" := ⟨_, rfl⟩
    obtain ⟨v, ev⟩ : ∃ v, v = callL.getD q.toNat "" := ⟨_, rfl⟩
    have sx : ∀ c, sNotIn (.str c) (.str u) = some (.bl (!has c q)) := fun c => by rw [eu]; rfl
    rw [← eu] at u1
    rw [← ev] at u2 ⊢
    clear eu ev
    simp only [usedL, callL, List.map] at u1 u2
    cases bx : has "x" q <;> cases by_ : has "y" q <;> cases bd : has "d" q <;> cases hdz : fz <;> cases zx : (x == 0) <;> cases zy : (y == 0) <;> cases zd : (d == 0) <;> rw [hdz] at hz <;> simp [F_law_row, runF, M_law_row, lAdd, sAsgT, gTup2, gsCons, gsNil, gN, ↓hA, ↓hF, *]
end P

namespace P
open PySem PyProof.Rows L2 DL
def fieV (n a b : Int) : D := if odd a then .non else .tup [.int (n % 32), .int (n / 32 % 8), .int (n / 256 % 8), dOf n a b]
def zB (a b : Int) : Bool := a == 0 && b == 0
def insV (n a b : Int) : D := if odd a then .non else cleanI (n % 32) (n / 32 % 8) (n / 256 % 8) (dOf n a b) (if zB a b then n / 2048 == 0 else false)
theorem fields_word (n : Int) {a b : Int} (ha : a ∈ mA) (hb : b ∈ mB) : F_fields [.tup [.int n, .tup (pt a b)]] = .ok (fieV n a b) := by
  have := fie n ha hb
  simp [F_fields, runF, M_fields, mCall, som n ha hb, this, fieV]
theorem ins_word (n : Int) {a b : Int} (ha : a ∈ mA) (hb : b ∈ mB) : F_instruction [.tup [.int n, .tup (pt a b)]] = .ok (insV n a b) := by
  have h := fie n ha hb
  have e : F_instruction_in [.tup [.int n, .tup (pt a b)]] = .ok (insV n a b) := by
    unfold insV
    by_cases o : odd a = true
    · rw [if_pos o] at h ⊢
      simp [F_instruction_in, runF, M_instruction_in, mCall, h, gIsN]
    · rw [if_neg o] at h ⊢
      refine ins_eval h ?_ (Int.emod_nonneg _ (by omega)) (Int.emod_lt_of_pos _ (by omega))
      rcases mem_mA ha with rfl | rfl | rfl | rfl | rfl | rfl <;> rcases mem_mB hb with rfl | rfl <;> first | exact absurd rfl o | kernel_rfl
  simp [F_instruction, runF, M_instruction, mCall, som n ha hb, e]
theorem told_word (n : Int) {a b : Int} (ha : a ∈ mA) (hb : b ∈ mB) : ∃ w, F_law_row [.tup [.int n, .tup (pt a b)]] = .ok w ∧ F_law_told [w] = .ok (insV n a b) := by
  unfold insV
  by_cases o : odd a = true
  · refine ⟨.non, ?_, ?_⟩
    · rcases mem_mA ha with rfl | rfl | rfl | rfl | rfl | rfl <;> rcases mem_mB hb with rfl | rfl <;> first | exact absurd o (by decide) | kernel_rfl
    · rw [if_pos o]; rfl
  · rw [if_neg o]
    refine ⟨_, row_gen (far := farL a b) (fz := zB a b) (Int.emod_nonneg _ (by omega)) (Int.emod_lt_of_pos _ (by omega)) rfl rfl rfl rfl ?_ ?_ ?_, ?_⟩
    · rcases mem_mA ha with rfl | rfl | rfl | rfl | rfl | rfl <;> rcases mem_mB hb with rfl | rfl <;> kernel_rfl
    · intro s0 s1 s2 s3 s4 s6 s7 s8 s9
      rcases mem_mA ha with rfl | rfl | rfl | rfl | rfl | rfl <;> rcases mem_mB hb with rfl | rfl <;> first | exact absurd rfl o | kernel_rfl
    · intro s0 s1 s2 s3 s4 s6 s7 s8 s9
      rcases mem_mA ha with rfl | rfl | rfl | rfl | rfl | rfl <;> rcases mem_mB hb with rfl | rfl <;> kernel_rfl
    · unfold toldC cleanI
      by_cases hq : 17 ≤ n % 32
      · rw [if_pos hq, if_pos hq]; rfl
      · rw [if_neg hq, if_neg hq]
        rcases mem_mA ha with rfl | rfl | rfl | rfl | rfl | rfl <;> rcases mem_mB hb with rfl | rfl <;> first | exact absurd rfl o | skip
        all_goals
          generalize (!has "x" (n % 32) && !(n / 32 % 8 == 0)) = b1
          generalize (!has "y" (n % 32) && !(n / 256 % 8 == 0)) = b2
          generalize has "d" (n % 32) = b3
          generalize callL.getD (n % 32).toNat "" = v
          generalize n / 2048 = m
          generalize (m == 0) = b4
          cases b1 <;> cases b2 <;> cases b3 <;> cases b4 <;> kernel_rfl
theorem call_ok : ∀ k : Fin 17, okEq (.str (callL.getD k.1 "")) = true := by decide +kernel
theorem okE_row {v : Str} {x y n a b : Int} (h : okEq (.str v) = true) (ha : a ∈ mA) (hb : b ∈ mB) : okEq (.tup [.str v, .int x, .int y, dOf n a b]) = true := by
  have e : okEq (.str v) = (PyData.strOk v && true) := by kernel_rfl
  have g : okEq (.tup [.str v, .int x, .int y, dOf n a b]) = ((PyData.strOk v && true) && true) := by
    rcases mem_mA ha with rfl | rfl | rfl | rfl | rfl | rfl <;> rcases mem_mB hb with rfl | rfl <;> kernel_rfl
  rw [g, ← e, h]
  rfl
theorem ins_ok (n : Int) {a b : Int} (ha : a ∈ mA) (hb : b ∈ mB) : okEq (insV n a b) = true := by
  unfold insV cleanI
  by_cases o : odd a = true
  · rw [if_pos o]; rfl
  · rw [if_neg o]
    by_cases hq : 17 ≤ n % 32
    · rw [if_pos hq]; rfl
    · rw [if_neg hq]
      have h0 : 0 ≤ n % 32 := Int.emod_nonneg _ (by omega)
      have v := call_ok ⟨(n % 32).toNat, by omega⟩
      generalize ((!has "x" (n % 32) && !(n / 32 % 8 == 0)) || (!has "y" (n % 32) && !(n / 256 % 8 == 0)) || (!has "d" (n % 32) && !(if zB a b = true then n / 2048 == 0 else false))) = z
      cases z
      · exact okE_row v ha hb
      · rfl
theorem fie_ok (n : Int) {a b : Int} (ha : a ∈ mA) (hb : b ∈ mB) : okEq (fieV n a b) = true := by
  rcases mem_mA ha with rfl | rfl | rfl | rfl | rfl | rfl <;> rcases mem_mB hb with rfl | rfl <;> kernel_rfl
theorem b8_pre (n : Int) {a b : Int} (ha : a ∈ mA) (hb : b ∈ mB) (s0 s1 s2 s3 s4 s5 s7 s9 s10 s11 s12 s13 s14 : Sl) :
    (sSeq M_law_s3 (sSeq M_law_s4 (sSeq M_law_s5 M_law_s6))) [s0, s1, s2, s3, s4, s5, .dat (.int n), s7, .dat (.tup [.int n, .tup (pt a b)]), s9, s10, s11, s12, s13, s14, .un, .un] =
      .nx [s0, s1, s2, .dat (dOf n a b), s4, s5, .dat (.int n), s7, .dat (.tup [.int n, .tup (pt a b)]), s9, s10, s11, s12, .dat (.tup (farL a b)), .dat (fieV n a b), .un, .un] := by
  rcases mem_mA ha with rfl | rfl | rfl | rfl | rfl | rfl <;> rcases mem_mB hb with rfl | rfl <;> kernel_rfl
theorem seq_assoc {a b c d e : MS} (r : DEnv) : (sSeq a (sSeq b (sSeq c (sSeq d e)))) r = (sSeq (sSeq a (sSeq b (sSeq c d))) e) r := by
  simp only [sSeq]
  cases a r with
  | nx r1 =>
    simp only []
    cases b r1 with
    | nx r2 =>
      simp only []
      cases c r2 <;> rfl
    | _ => rfl
  | _ => rfl
theorem b8_ok (n : Int) {a b : Int} (ha : a ∈ mA) (hb : b ∈ mB) (s0 s1 s2 s3 s4 s5 s7 s9 s10 s11 s12 s13 s14 : Sl) :
    M_law_b8 [s0, s1, s2, s3, s4, s5, .dat (.int n), s7, .dat (.tup [.int n, .tup (pt a b)]), s9, s10, s11, s12, s13, s14, .un, .un] =
      .nx [s0, s1, s2, .dat (dOf n a b), s4, s5, .dat (.int n), s7, .dat (.tup [.int n, .tup (pt a b)]), s9, s10, s11, s12, .dat (.tup (farL a b)), .dat (fieV n a b), .un, .un] := by
  obtain ⟨w, e1, e2⟩ := told_word n ha hb
  unfold M_law_b8
  rw [seq_assoc]
  simp only [ev_sSeq _ M_law_s7, b8_pre n ha hb]
  simp [M_law_s7, mCall, fields_word n ha hb, ins_word n ha hb, e1, e2, gNe_self (fie_ok n ha hb), gNe_self (ins_ok n ha hb)]
end P

namespace P
open PySem PyProof.Rows L2 DL
theorem PoolOk.mono {n m : Nat} {l : List D} (h : PoolOk n l) (hm : n ≤ m) : PoolOk m l := by
  obtain ⟨a, b, c, e, h1, h2, h3, h4⟩ := h
  exact ⟨a, b, c, e, h1, h2, h3, by omega⟩
section
variable {s0 s1 s2 s3 s4 s5 s6 s7 s8 s9 s10 s11 s12 s13 s14 : Sl} {l : List D} {n : Nat}
theorem st9 (ns : List Int) (t : Nat) : ∃ l, PoolOk 0 l ∧ M_law_s9 [.dat (.scr ns), .dat (.int t), s2, s3, s4, s5, s6, s7, s8, s9, s10, s11, s12, s13, s14, .un, .un] = .nx [.dat (.scr ns), .dat (.int t), .own false l, s3, s4, s5, s6, s7, s8, s9, s10, s11, s12, s13, s14, .un, .un] := by
  obtain ⟨c, e⟩ := cell_ok ns t
  obtain ⟨l, e2, p⟩ := pool_ok (c + t)
  exact ⟨l, p, by simp [M_law_s9, sAsgO, mCallO, mCall, e, e2]⟩
theorem st10 (hp : PoolOk n l) (hn : n < 1000) : ∃ l' c x y, PoolOk (n + 3) l' ∧ M_law_s10 [s0, s1, .own false l, s3, s4, s5, s6, s7, s8, s9, s10, s11, s12, s13, s14, .un, .un] = .nx [s0, s1, .own false l', s3, s4, s5, s6, s7, s8, s9, .dat (.int c), .dat (.int x), .dat (.int y), s13, s14, .un, .un] := by
  obtain ⟨c, l1, e1, _, _, p1⟩ := take_ok (many := 32) hp (by omega) (by decide) (by decide)
  obtain ⟨x, l2, e2, _, _, p2⟩ := take_ok (many := 8) p1 (by omega) (by decide) (by decide)
  obtain ⟨y, l3, e3, _, _, p3⟩ := take_ok (many := 8) p2 (by omega) (by decide) (by decide)
  exact ⟨l3, c, x, y, p3, by simp [M_law_s10, sAsgT, gTup2, gsCons, gsNil, gN, mCallP, e1, e2, e3]⟩
theorem st11 (hp : PoolOk n l) (hn : n < 1000) : ∃ l' d, PoolOk (n + 1) l' ∧ M_law_s11 [s0, s1, .own false l, s3, s4, s5, s6, s7, s8, s9, s10, s11, s12, s13, s14, .un, .un] = .nx [s0, s1, .own false l', .dat (.int d), s4, s5, s6, s7, s8, s9, s10, s11, s12, s13, s14, .un, .un] := by
  obtain ⟨x, l1, e1, m, p1⟩ := one_ok (things := [.int 0, .int 0, .int 1, .int (-1), .int 255, .int (-256), .int 100000000000000000000, .int (-100000000000000000000)]) hp (by omega) (by decide) (by decide)
  have hx : ∃ d, x = .int d := by
    simp only [List.mem_cons, List.mem_nil_iff, or_false] at m
    rcases m with rfl | rfl | rfl | rfl | rfl | rfl | rfl | rfl <;> exact ⟨_, rfl⟩
  obtain ⟨d, rfl⟩ := hx
  exact ⟨l1, d, p1, by simp [M_law_s11, mCallP, e1]⟩
theorem st12 {c : Int} (hp : PoolOk n l) (hn : n < 1000) : ∃ l' c', PoolOk (n + 2) l' ∧ noScr c' = true ∧ M_law_s12 [s0, s1, .own false l, s3, s4, s5, s6, s7, s8, s9, .dat (.int c), s11, s12, s13, s14, .un, .un] = .nx [s0, s1, .own false l', s3, s4, s5, s6, s7, s8, s9, .dat c', s11, s12, s13, s14, .un, .un] := by
  obtain ⟨d, l1, e1, _, _, p1⟩ := take_ok (many := 3) hp (by omega) (by decide) (by decide)
  by_cases hd : d = 0
  · subst hd
    obtain ⟨x, l2, e2, m, p2⟩ := one_ok (things := [.int (-1), .int 32, .non, .bl true, .str "0", .int c]) p1 (by omega) (by simp) (by simp)
    have hx : noScr x = true := by
      simp only [List.mem_cons, List.mem_nil_iff, or_false] at m
      rcases m with rfl | rfl | rfl | rfl | rfl | rfl <;> rfl
    exact ⟨l2, x, p2, hx, by simp [M_law_s12, mCallP, e1, e2]⟩
  · exact ⟨l1, .int c, p1.mono (by omega), rfl, by simp [M_law_s12, mCallP, e1, show (d == 0) = false by simp [hd]]⟩
theorem st13 {x y d : Int} (hp : PoolOk n l) (hn : n < 1000) : ∃ l' x' y' d', PoolOk (n + 4) l' ∧ noScr x' = true ∧ noScr y' = true ∧ noScr d' = true ∧ M_law_s13 [s0, s1, .own false l, .dat (.int d), s4, s5, s6, s7, s8, s9, s10, .dat (.int x), .dat (.int y), s13, s14, .un, .un] = .nx [s0, s1, .own false l', .dat d', s4, s5, s6, s7, s8, s9, s10, .dat x', .dat y', s13, s14, .un, .un] := by
  obtain ⟨k, l1, e1, _, _, p1⟩ := take_ok (many := 3) hp (by omega) (by decide) (by decide)
  by_cases hd : k = 0
  · subst hd
    obtain ⟨x', l2, e2, m2, p2⟩ := one_ok (things := [.int 8, .int (-1), .non, .bl false, .int x]) p1 (by omega) (by simp) (by simp)
    obtain ⟨y', l3, e3, m3, p3⟩ := one_ok (things := [.int 8, .lst [], .int y, .int y]) p2 (by omega) (by simp) (by simp)
    obtain ⟨d', l4, e4, m4, p4⟩ := one_ok (things := [.non, .bl true, .str "1", .int d, .int d]) p3 (by omega) (by simp) (by simp)
    have hx : noScr x' = true := by
      simp only [List.mem_cons, List.mem_nil_iff, or_false] at m2
      rcases m2 with rfl | rfl | rfl | rfl | rfl <;> rfl
    have hy : noScr y' = true := by
      simp only [List.mem_cons, List.mem_nil_iff, or_false] at m3
      rcases m3 with rfl | rfl | rfl | rfl <;> rfl
    have hd : noScr d' = true := by
      simp only [List.mem_cons, List.mem_nil_iff, or_false] at m4
      rcases m4 with rfl | rfl | rfl | rfl | rfl <;> rfl
    exact ⟨l4, x', y', d', p4, hx, hy, hd, by simp [M_law_s13, M_law_s1, M_law_s2, sAsgT, gTup2, gsCons, gsNil, gN, mCallP, e1, e2, e3, e4]⟩
  · exact ⟨l1, .int x, .int y, .int d, p1.mono (by omega), rfl, rfl, rfl, by simp [M_law_s13, mCallP, e1, show (k == 0) = false by simp [hd]]⟩
theorem fields_int (N : Int) : F_fields [.int N] = .ok (.tup [.int (N % 32), .int (N / 32 % 8), .int (N / 256 % 8), .int (N / 2048)]) := by kernel_rfl
theorem st1416 {c x y d : D} {p : Sl} (h1 : noScr c = true) (h2 : noScr x = true) (h3 : noScr y = true) (h4 : noScr d = true) : ∃ v4 v5, (sSeq M_law_s14 (sSeq M_law_s15 M_law_s16)) [s0, s1, p, .dat d, s4, s5, s6, s7, s8, s9, .dat c, .dat x, .dat y, s13, s14, .un, .un] = .nx [s0, s1, p, .dat d, v4, v5, s6, s7, s8, s9, .dat c, .dat x, .dat y, s13, s14, .un, .un] := by
  have hb := bad_ok h1 h2 h3 h4
  cases e : badOf c x y d with
  | some s =>
    rw [e] at hb
    have hc := coded_bad h1 h2 h3 h4 e
    have hs : okEq (.tup [.str "field", .str s]) = true := by
      unfold badOf at e
      by_cases b1 : belowB 32 c
      · rw [if_pos b1] at e
        by_cases b2 : belowB 8 x
        · rw [if_pos b2] at e
          by_cases b3 : belowB 8 y
          · rw [if_pos b3] at e
            by_cases b4 : intB d
            · rw [if_pos b4] at e; cases e
            · rw [if_neg b4] at e; cases e; kernel_rfl
          · rw [if_neg b3] at e; cases e; kernel_rfl
        · rw [if_neg b2] at e; cases e; kernel_rfl
      · rw [if_neg b1] at e; cases e; kernel_rfl
    refine ⟨.dat (.str s), .dat (.tup [.str "field", .str s]), ?_⟩
    simp [M_law_s14, M_law_s15, M_law_s16, mCall, hb, mMet, hideO, hide, mCallK, pick, Sel.of, hc, cl_law_met, metC, dlooks, gNotN, gNe_self hs]
  | none =>
    rw [e] at hb
    unfold badOf at e
    by_cases b1 : belowB 32 c
    · rw [if_pos b1] at e
      by_cases b2 : belowB 8 x
      · rw [if_pos b2] at e
        by_cases b3 : belowB 8 y
        · rw [if_pos b3] at e
          by_cases b4 : intB d
          · obtain ⟨c, rfl, c0, c1⟩ := belowB_int b1
            obtain ⟨x, rfl, x0, x1⟩ := belowB_int b2
            obtain ⟨y, rfl, y0, y1⟩ := belowB_int b3
            obtain ⟨d, rfl⟩ := intB_int b4
            have k1 := coded_int c x y d b1 b2 b3
            have k2 := coded_int c 0 0 0 b1 rfl rfl
            have k3 := coded_int c x 0 d b1 b2 rfl
            have f := fields_int (c + 32 * x + 256 * y + 2048 * d)
            have a1 : (c + 32 * x + 256 * y + 2048 * d) % 32 = c := by omega
            have a2 : (c + 32 * x + 256 * y + 2048 * d) / 32 % 8 = x := by omega
            have a3 : (c + 32 * x + 256 * y + 2048 * d) / 256 % 8 = y := by omega
            have a4 : (c + 32 * x + 256 * y + 2048 * d) / 2048 = d := by omega
            rw [a1, a2, a3, a4] at f
            have a5 : c + 32 * x + 256 * 0 + 2048 * d = c + 32 * x + 256 * y + 2048 * d - 256 * y := by omega
            have a6 : c + 32 * 0 + 256 * 0 + 2048 * 0 = c := by omega
            rw [a5] at k3
            rw [a6] at k2
            have o1 : okEq (.tup [.str "told", .int (c + 32 * x + 256 * y + 2048 * d)]) = true := by kernel_rfl
            have o2 : okEq (.tup [.int c, .int x, .int y, .int d]) = true := by kernel_rfl
            refine ⟨.dat .non, .dat (.tup [.str "told", .int (c + 32 * x + 256 * y + 2048 * d)]), ?_⟩
            simp [M_law_s14, M_law_s15, M_law_s16, mCall, hb, mMet, hideO, hide, mCallK, pick, Sel.of, k1, k2, k3, f, dd_coded, cl_law_met, gNotN, gNe_self o1, gNe_self o2]
          · rw [if_neg b4] at e; cases e
        · rw [if_neg b3] at e; cases e
      · rw [if_neg b2] at e; cases e
    · rw [if_neg b1] at e; cases e
theorem st17 (hp : PoolOk n l) (hn : n < 1000) : ∃ l' m, PoolOk (n + 4) l' ∧ M_law_s17 [s0, s1, .own false l, s3, s4, s5, s6, s7, s8, s9, s10, s11, s12, s13, s14, .un, .un] = .nx [s0, s1, .own false l', s3, s4, s5, .dat (.int m), s7, s8, s9, s10, s11, s12, s13, s14, .un, .un] := by
  obtain ⟨a, l1, e1, _, _, p1⟩ := take_ok (many := 70000) hp (by omega) (by decide) (by decide)
  obtain ⟨b, l2, e2, _, _, p2⟩ := take_ok (many := 70000) p1 (by omega) (by decide) (by decide)
  obtain ⟨c, l3, e3, _, _, p3⟩ := take_ok (many := 17) p2 (by omega) (by decide) (by decide)
  obtain ⟨x, l4, e4, m, p4⟩ := one_ok (things := [.int a, .int (-b), .int c, .int 1000000000000000000000000000000, .int (-1)]) p3 (by omega) (by simp) (by simp)
  have hx : ∃ d, x = .int d := by
    simp only [List.mem_cons, List.mem_nil_iff, or_false] at m
    rcases m with rfl | rfl | rfl | rfl | rfl <;> exact ⟨_, rfl⟩
  obtain ⟨d, rfl⟩ := hx
  exact ⟨l4, d, p4, by simp [M_law_s17, mCallP, e1, e2, e3, e4]⟩
theorem st18 (hp : PoolOk n l) (hn : n < 1000) : ∃ l' a b, PoolOk (n + 2) l' ∧ a ∈ mA ∧ b ∈ mB ∧ M_law_s18 [s0, s1, .own false l, s3, s4, s5, s6, s7, s8, s9, s10, s11, s12, s13, s14, .un, .un] = .nx [s0, s1, .own false l', s3, s4, s5, s6, .dat (.lst [.tup [uA, .int a], .tup [uB, .int b]]), s8, s9, s10, s11, s12, s13, s14, .un, .un] := by
  obtain ⟨x, l1, e1, m1, p1⟩ := one_ok (things := [.int 0, .int 2048, .int (-2048), .int 4096, .int 1, .int 32]) hp (by omega) (by simp) (by simp)
  obtain ⟨y, l2, e2, m2, p2⟩ := one_ok (things := [.int 0, .int (-2048)]) p1 (by omega) (by simp) (by simp)
  have hx : ∃ a, a ∈ mA ∧ x = .int a := by
    simp only [List.mem_cons, List.mem_nil_iff, or_false] at m1
    rcases m1 with rfl | rfl | rfl | rfl | rfl | rfl <;> exact ⟨_, by simp [mA], rfl⟩
  have hy : ∃ b, b ∈ mB ∧ y = .int b := by
    simp only [List.mem_cons, List.mem_nil_iff, or_false] at m2
    rcases m2 with rfl | rfl <;> exact ⟨_, by simp [mB], rfl⟩
  obtain ⟨a, ha, rfl⟩ := hx
  obtain ⟨b, hb, rfl⟩ := hy
  exact ⟨l2, a, b, p2, ha, hb, by simp [M_law_s18, mCallP, e1, e2]⟩
theorem st19 {m a b : Int} {p : Sl} (ha : a ∈ mA) (hb : b ∈ mB) : ∃ t3 t8 t13 t14, M_law_s19 [s0, s1, p, s3, s4, s5, .dat (.int m), .dat (.lst [.tup [uA, .int a], .tup [uB, .int b]]), s8, s9, s10, s11, s12, s13, s14, .un, .un] = .nx [s0, s1, p, t3, s4, s5, .dat (.int m), .dat (.lst [.tup [uA, .int a], .tup [uB, .int b]]), t8, s9, s10, s11, s12, t13, t14, .un, .un] := by
  have h0 := fun s0 s1 s2 s3 s4 s5 s7 s9 s10 s11 s12 s13 s14 => b8_ok m (a := 0) (b := 0) (by simp [mA]) (by simp [mB]) s0 s1 s2 s3 s4 s5 s7 s9 s10 s11 s12 s13 s14
  have z : pt 0 0 = [] := rfl
  rw [z] at h0
  have h1 := fun s0 s1 s2 s3 s4 s5 s7 s9 s10 s11 s12 s13 s14 => b8_ok m ha hb s0 s1 s2 s3 s4 s5 s7 s9 s10 s11 s12 s13 s14
  refine ⟨.dat (dOf m a b), .dat (.tup [.int m, .tup (pt a b)]), .dat (.tup (farL a b)), .dat (fieV m a b), ?_⟩
  simp [M_law_s19, sFor, mSeq, mCall, tot m ha hb, forL, gN, h0, h1]
theorem som_int (m : Int) : F_sum_of [.int m] = .ok (.tup [.int m, .tup []]) := by kernel_rfl
theorem som_lst (m : Int) : F_sum_of [.lst [.int m, .lst []]] = .ok (.tup [.int m, .tup []]) := by kernel_rfl
theorem som_tup (m : Int) : F_sum_of [.tup [.int m, .tup []]] = .ok (.tup [.int m, .tup []]) := by kernel_rfl
theorem ins_int (m : Int) : F_instruction [.int m] = F_instruction [.tup [.int m, .tup []]] := by
  simp only [F_instruction, runF, M_instruction]
  simp [mCall, som_int, som_tup]
  cases F_instruction_in [.tup [.int m, .tup []]] <;> rfl
theorem ins_lst (m : Int) : F_instruction [.lst [.int m, .lst []]] = F_instruction [.tup [.int m, .tup []]] := by
  simp only [F_instruction, runF, M_instruction]
  simp [mCall, som_lst, som_tup]
  cases F_instruction_in [.tup [.int m, .tup []]] <;> rfl
theorem fie_tup (m : Int) : F_fields [.tup [.int m, .tup []]] = F_fields [.int m] := by kernel_rfl
theorem st20 {m : Int} {p : Sl} : M_law_s20 [s0, s1, p, s3, s4, s5, .dat (.int m), s7, s8, s9, s10, s11, s12, s13, s14, .un, .un] = .nx [s0, s1, p, s3, s4, s5, .dat (.int m), s7, s8, s9, s10, s11, s12, s13, s14, .un, .un] := by
  have i := ins_word m (a := 0) (b := 0) (by simp [mA]) (by simp [mB])
  have z : pt 0 0 = [] := rfl
  rw [z] at i
  have o1 := ins_ok m (a := 0) (b := 0) (by simp [mA]) (by simp [mB])
  have o2 : okEq (.tup [.int (m % 32), .int (m / 32 % 8), .int (m / 256 % 8), .int (m / 2048)]) = true := by kernel_rfl
  simp [M_law_s20, mCall, fie_tup, fields_int, ins_int, ins_lst, i, gNe_self o1, gNe_self o2]
theorem st21 (hp : PoolOk n l) (hn : n < 1000) : ∃ l' x, M_law_s21 [s0, s1, .own false l, s3, s4, s5, s6, s7, s8, s9, s10, s11, s12, s13, s14, .un, .un] = .nx [s0, s1, .own false l', s3, s4, s5, s6, s7, s8, .dat x, s10, s11, s12, s13, s14, .un, .un] ∧
    M_law_s22 [s0, s1, .own false l', s3, s4, s5, s6, s7, s8, .dat x, s10, s11, s12, s13, s14, .un, .un] = .nx [s0, s1, .own false l', s3, s4, s5, s6, s7, s8, .dat x, s10, s11, s12, s13, s14, .un, .un] := by
  obtain ⟨x, l1, e1, m1, p1⟩ := one_ok (things := [.non, .bl true, .str "a", .tup [.int 1], .dct [], .tup [.int 0, .tup [.tup [.tup [.str "in", .int 0], .int 1]]]]) hp (by omega) (by simp) (by simp)
  refine ⟨l1, x, by simp [M_law_s21, mCallP, e1], ?_⟩
  simp only [List.mem_cons, List.mem_nil_iff, or_false] at m1
  rcases m1 with rfl | rfl | rfl | rfl | rfl | rfl <;> kernel_rfl
theorem b23_ok (ns : List Int) (t : Nat) : ∃ t2 t3 t4 t5 t6 t7 t8 t9 t10 t11 t12 t13 t14, M_law_b23 [.dat (.scr ns), .dat (.int t), s2, s3, s4, s5, s6, s7, s8, s9, s10, s11, s12, s13, s14, .un, .un] = .nx [.dat (.scr ns), .dat (.int t), t2, t3, t4, t5, t6, t7, t8, t9, t10, t11, t12, t13, t14, .un, .un] := by
  obtain ⟨l1, p1, e9⟩ := st9 (s2 := s2) (s3 := s3) (s4 := s4) (s5 := s5) (s6 := s6) (s7 := s7) (s8 := s8) (s9 := s9) (s10 := s10) (s11 := s11) (s12 := s12) (s13 := s13) (s14 := s14) ns t
  obtain ⟨l2, c, x, y, p2, e10⟩ := st10 (s0 := .dat (.scr ns)) (s1 := .dat (.int t)) (s3 := s3) (s4 := s4) (s5 := s5) (s6 := s6) (s7 := s7) (s8 := s8) (s9 := s9) (s10 := s10) (s11 := s11) (s12 := s12) (s13 := s13) (s14 := s14) p1 (by omega)
  obtain ⟨l3, d, p3, e11⟩ := st11 (s0 := .dat (.scr ns)) (s1 := .dat (.int t)) (s3 := s3) (s4 := s4) (s5 := s5) (s6 := s6) (s7 := s7) (s8 := s8) (s9 := s9) (s10 := .dat (.int c)) (s11 := .dat (.int x)) (s12 := .dat (.int y)) (s13 := s13) (s14 := s14) p2 (by omega)
  obtain ⟨l4, c', p4, hc, e12⟩ := st12 (c := c) (s0 := .dat (.scr ns)) (s1 := .dat (.int t)) (s3 := .dat (.int d)) (s4 := s4) (s5 := s5) (s6 := s6) (s7 := s7) (s8 := s8) (s9 := s9) (s11 := .dat (.int x)) (s12 := .dat (.int y)) (s13 := s13) (s14 := s14) p3 (by omega)
  obtain ⟨l5, x', y', d', p5, hx, hy, hd, e13⟩ := st13 (x := x) (y := y) (d := d) (s0 := .dat (.scr ns)) (s1 := .dat (.int t)) (s4 := s4) (s5 := s5) (s6 := s6) (s7 := s7) (s8 := s8) (s9 := s9) (s10 := .dat c') (s13 := s13) (s14 := s14) p4 (by omega)
  obtain ⟨v4, v5, e14⟩ := st1416 (s0 := .dat (.scr ns)) (s1 := .dat (.int t)) (p := .own false l5) (s4 := s4) (s5 := s5) (s6 := s6) (s7 := s7) (s8 := s8) (s9 := s9) (s13 := s13) (s14 := s14) hc hx hy hd
  obtain ⟨l6, m, p6, e17⟩ := st17 (s0 := .dat (.scr ns)) (s1 := .dat (.int t)) (s3 := .dat d') (s4 := v4) (s5 := v5) (s6 := s6) (s7 := s7) (s8 := s8) (s9 := s9) (s10 := .dat c') (s11 := .dat x') (s12 := .dat y') (s13 := s13) (s14 := s14) p5 (by omega)
  obtain ⟨l7, a, b, p7, ha, hb, e18⟩ := st18 (s0 := .dat (.scr ns)) (s1 := .dat (.int t)) (s3 := .dat d') (s4 := v4) (s5 := v5) (s6 := .dat (.int m)) (s7 := s7) (s8 := s8) (s9 := s9) (s10 := .dat c') (s11 := .dat x') (s12 := .dat y') (s13 := s13) (s14 := s14) p6 (by omega)
  obtain ⟨t3, t8, t13, t14, e19⟩ := st19 (s0 := .dat (.scr ns)) (s1 := .dat (.int t)) (p := .own false l7) (s3 := .dat d') (s4 := v4) (s5 := v5) (s8 := s8) (s9 := s9) (s10 := .dat c') (s11 := .dat x') (s12 := .dat y') (s13 := s13) (s14 := s14) (m := m) ha hb
  obtain ⟨l8, o, e21, e22⟩ := st21 (s0 := .dat (.scr ns)) (s1 := .dat (.int t)) (s3 := t3) (s4 := v4) (s5 := v5) (s6 := .dat (.int m)) (s7 := .dat (.lst [.tup [uA, .int a], .tup [uB, .int b]])) (s8 := t8) (s9 := s9) (s10 := .dat c') (s11 := .dat x') (s12 := .dat y') (s13 := t13) (s14 := t14) p7 (by omega)
  refine ⟨.own false l8, t3, v4, v5, .dat (.int m), .dat (.lst [.tup [uA, .int a], .tup [uB, .int b]]), t8, .dat o, .dat c', .dat x', .dat y', t13, t14, ?_⟩
  have q : ∀ (a b c d : MS) (r : DEnv), (sSeq a (sSeq b (sSeq c d))) r = (sSeq (sSeq a (sSeq b c)) d) r := by
    intro a b c d r
    simp only [sSeq]
    cases a r with
    | nx r1 =>
      simp only []
      cases b r1 <;> rfl
    | _ => rfl
  simp only [M_law_b23, ev_sSeq M_law_s9, ev_sSeq M_law_s10, ev_sSeq M_law_s11, ev_sSeq M_law_s12, ev_sSeq M_law_s13, e9, e10, e11, e12, e13, q M_law_s14 M_law_s15 M_law_s16]
  rw [ev_sSeq (sSeq M_law_s14 (sSeq M_law_s15 M_law_s16)), e14]
  simp only [ev_sSeq, e17, e18, e19, st20, e21, e22]
end
theorem loop_ok (ns : List Int) : ∀ (ts : List Nat) (s1 s2 s3 s4 s5 s6 s7 s8 s9 s10 s11 s12 s13 s14 : Sl), ∃ r, forL (gN 1) M_law_b23 (ts.map fun (t : Nat) => D.int t) [.dat (.scr ns), s1, s2, s3, s4, s5, s6, s7, s8, s9, s10, s11, s12, s13, s14, .un, .un] = .nx r
  | [], _, _, _, _, _, _, _, _, _, _, _, _, _, _ => ⟨_, rfl⟩
  | t :: ts, s1, s2, s3, s4, s5, s6, s7, s8, s9, s10, s11, s12, s13, s14 => by
    obtain ⟨t2, t3, t4, t5, t6, t7, t8, t9, t10, t11, t12, t13, t14, e⟩ := b23_ok (s2 := s2) (s3 := s3) (s4 := s4) (s5 := s5) (s6 := s6) (s7 := s7) (s8 := s8) (s9 := s9) (s10 := s10) (s11 := s11) (s12 := s12) (s13 := s13) (s14 := s14) ns t
    obtain ⟨r, h⟩ := loop_ok ns ts (.dat (.int t)) t2 t3 t4 t5 t6 t7 t8 t9 t10 t11 t12 t13 t14
    refine ⟨r, ?_⟩
    simp only [List.map_cons, forL, gN, List.set_cons_succ, List.set_cons_zero, e, h]
theorem hl (ns : List Int) (hn : ns.length ≤ 63) : F_law [.scr ns] = .ok (.bl true) := by
  obtain ⟨r, h⟩ := loop_ok ns [0, 1, 2, 3, 4, 5, 6, 7] .un .un .un .un .un .un .un .un .un .un .un .un .un .un
  have e : M_law [.dat (.scr ns), .un, .un, .un, .un, .un, .un, .un, .un, .un, .un, .un, .un, .un, .un, .un, .un] = .rt (.bl true) r := by
    have h' : M_law_s24 [.dat (.scr ns), .un, .un, .un, .un, .un, .un, .un, .un, .un, .un, .un, .un, .un, .un, .un, .un] = .nx r := h
    simp only [M_law, ev_sSeq, h', M_law_s25, ev_sRet, ev_mC]
  show (match M_law [.dat (.scr ns), .un, .un, .un, .un, .un, .un, .un, .un, .un, .un, .un, .un, .un, .un, .un, .un] with
    | .rt d _ => FR.ok d
    | .nx _ => .ok .non
    | .rtO l _ => .own l
    | .exc c fs => .exc c fs
    | _ => .bad) = _
  rw [e]
end P

open PySem PySem.W PyProof.Rows
set_option Elab.async false
set_option maxRecDepth 100000
set_option maxHeartbeats 0
set_option pp.maxSteps 300
set_option pp.deepTerms false
theorem PySem.Challenge.cw_loadanywhere_k02_code_words_holds : PySem.Challenge.rw_loadanywhere_k02_code_words.Holds := by
  w_on; o_law; k_head; (case hw => w_witness2)
  k_fill
  refine LamX.walk_ofTs (l := PySem.Challenge.rw_loadanywhere_k02_code_words) (n := 63) (k := 10) (x := "_law_script") (CX := fun w => L2.CX P.Pr w) rfl (by decide) rfl ⟨rfl, by decide, by decide⟩ (fun w h Y => PySem.W.km_in_of Y) ?F (fun w H s e s' z => by obtain ⟨_, _, _, _, _, _, _, _, _, _, _, _, y⟩ := z; exact y)
  case F =>
    intro w mg fa h Y KX G hmg
    refine' P.law_at KX G (P.txt_mk KX G ?a0 ?l0 ?c0_ ?k0 ?a1 ?l1 ?c1_ ?k1 ?a2 ?l2 ?c2_ ?k2 ?a3 ?l3 ?c3_ ?k3 ?a4 ?l4 ?c4_ ?k4 ?a5 ?l5 ?c5_ ?k5 ?a6 ?l6 ?c6_ ?k6 ?a7 ?l7 ?c7_ ?k7 ?a8 ?l8 ?c8_ ?k8 ?a9 ?l9 ?c9_ ?k9 ?a10 ?l10 ?c10_ ?k10 ?lT10 ?oT10_ ?a11 ?l11 ?c11_ ?k11 ?a12 ?l12 ?c12_ ?k12 ?a13 ?l13 ?c13_ ?k13 ?a14 ?l14 ?c14_ ?k14 ?a15 ?l15 ?c15_ ?k15 ?a16 ?l16 ?c16_ ?k16 ?a17 ?l17 ?c17_ ?k17 ?a18 ?l18 ?c18_ ?k18 ?a19 ?l19 ?c19_ ?k19 ?a20 ?l20 ?c20_ ?k20 ?a21 ?l21 ?c21_ ?k21 ?a22 ?l22 ?c22_ ?k22 ?a23 ?l23 ?c23_ ?k23 ?a24 ?l24 ?c24_ ?k24 ?a25 ?l25 ?c25_ ?k25 ?a26 ?l26 ?c26_ ?k26 ?z_len ?z_int ?z_isinstance ?z_bool ?z_str ?z_list ?z_tuple ?z_all ?z_any ?z_sorted ?z_range ?g_LETTERS ?g_LONGEST ?g_KINDS ?gl_KINDS ?gc_KINDS ?gd_KINDS ?gs_KINDS ?g_CODES ?g_FIELDS ?g_STEP ?g_CALLED ?gl_CALLED ?gc_CALLED ?gd_CALLED ?gs_CALLED ?g_USED ?gl_USED ?gc_USED ?gd_USED ?gs_USED ?a_BadSum ?i_BadSum ?ty_BadSum ?l_BadSum ?cc_BadSum ?k_BadSum ?cl_BadSum ?ve_BadSum ?sa_BadSum ?ex_BadSum ?tc_BadSum ?kc_BadSum ?xa_BadSum ?xg_BadSum ?xh_BadSum ?no_BadSum_thing ?a_BadField ?i_BadField ?ty_BadField ?l_BadField ?cc_BadField ?k_BadField ?cl_BadField ?ve_BadField ?sa_BadField ?ex_BadField ?tc_BadField ?kc_BadField ?xa_BadField ?xg_BadField ?xh_BadField ?no_BadField_name ?m_BadSum_BadSum ?m_BadSum_BadField ?m_BadField_BadSum ?m_BadField_BadField) hmg ?a26 ?l26 ?c26_ (DL.dfnL_mk KX G ?a25 ?l25 ?c25_ ?k25 (fun _ _ _ _ _ _ us hl => match us, hl with | [_], _ => rfl)) (PySem.W.km_tabs_of Y 232 (by simp)) (PySem.W.km_tabs_of Y 239 (by simp)) ?n1 ?n2 (DL.chd_mk ?l41 ?h1) (DL.chd_mk ?l42 ?h2) (by decide) P.hl
    (case a0 => k_is)
    (case l0 => k_is)
    (case c0_ => k_is)
    (case k0 => k_is)
    (case a1 => k_is)
    (case l1 => k_is)
    (case c1_ => k_is)
    (case k1 => k_is)
    (case a2 => k_is)
    (case l2 => k_is)
    (case c2_ => k_is)
    (case k2 => k_is)
    (case a3 => k_is)
    (case l3 => k_is)
    (case c3_ => k_is)
    (case k3 => k_is)
    (case a4 => k_is)
    (case l4 => k_is)
    (case c4_ => k_is)
    (case k4 => k_is)
    (case a5 => k_is)
    (case l5 => k_is)
    (case c5_ => k_is)
    (case k5 => k_is)
    (case a6 => k_is)
    (case l6 => k_is)
    (case c6_ => k_is)
    (case k6 => k_is)
    (case a7 => k_is)
    (case l7 => k_is)
    (case c7_ => k_is)
    (case k7 => k_is)
    (case a8 => k_is)
    (case l8 => k_is)
    (case c8_ => k_is)
    (case k8 => k_is)
    (case a9 => k_is)
    (case l9 => k_is)
    (case c9_ => k_is)
    (case k9 => k_is)
    (case a10 => k_is)
    (case l10 => k_is)
    (case c10_ => k_is)
    (case k10 => k_is)
    (case lT10 => k_is)
    (case oT10_ => rfl)
    (case a11 => k_is)
    (case l11 => k_is)
    (case c11_ => k_is)
    (case k11 => k_is)
    (case a12 => k_is)
    (case l12 => k_is)
    (case c12_ => k_is)
    (case k12 => k_is)
    (case a13 => k_is)
    (case l13 => k_is)
    (case c13_ => k_is)
    (case k13 => k_is)
    (case a14 => k_is)
    (case l14 => k_is)
    (case c14_ => k_is)
    (case k14 => k_is)
    (case a15 => k_is)
    (case l15 => k_is)
    (case c15_ => k_is)
    (case k15 => k_is)
    (case a16 => k_is)
    (case l16 => k_is)
    (case c16_ => k_is)
    (case k16 => k_is)
    (case a17 => k_is)
    (case l17 => k_is)
    (case c17_ => k_is)
    (case k17 => k_is)
    (case a18 => k_is)
    (case l18 => k_is)
    (case c18_ => k_is)
    (case k18 => k_is)
    (case a19 => k_is)
    (case l19 => k_is)
    (case c19_ => k_is)
    (case k19 => k_is)
    (case a20 => k_is)
    (case l20 => k_is)
    (case c20_ => k_is)
    (case k20 => k_is)
    (case a21 => k_is)
    (case l21 => k_is)
    (case c21_ => k_is)
    (case k21 => k_is)
    (case a22 => k_is)
    (case l22 => k_is)
    (case c22_ => k_is)
    (case k22 => k_is)
    (case a23 => k_is)
    (case l23 => k_is)
    (case c23_ => k_is)
    (case k23 => k_is)
    (case a24 => k_is)
    (case l24 => k_is)
    (case c24_ => k_is)
    (case k24 => k_is)
    (case a25 => k_is)
    (case l25 => k_is)
    (case c25_ => k_is)
    (case k25 => k_is)
    (case a26 => k_is)
    (case l26 => k_is)
    (case c26_ => k_is)
    (case k26 => k_is)
    (case z_len => k_is)
    (case z_int => k_is)
    (case z_isinstance => k_is)
    (case z_bool => k_is)
    (case z_str => k_is)
    (case z_list => k_is)
    (case z_tuple => k_is)
    (case z_all => k_is)
    (case z_any => k_is)
    (case z_sorted => k_is)
    (case z_range => k_is)
    (case g_LETTERS => k_is)
    (case g_LONGEST => k_is)
    (case g_KINDS => k_is)
    (case gl_KINDS => k_is)
    (case gc_KINDS => rfl)
    (case gd_KINDS => rfl)
    (case gs_KINDS => rfl)
    (case g_CODES => k_is)
    (case g_FIELDS => k_is)
    (case g_STEP => k_is)
    (case g_CALLED => k_is)
    (case gl_CALLED => k_is)
    (case gc_CALLED => rfl)
    (case gd_CALLED => rfl)
    (case gs_CALLED => rfl)
    (case g_USED => k_is)
    (case gl_USED => k_is)
    (case gc_USED => rfl)
    (case gd_USED => rfl)
    (case gs_USED => rfl)
    (case a_BadSum => k_is)
    (case i_BadSum => k_is)
    (case ty_BadSum => k_is)
    (case l_BadSum => k_is)
    (case cc_BadSum => k_is)
    (case k_BadSum => k_is)
    (case cl_BadSum => k_is)
    (case ve_BadSum => decide +kernel)
    (case sa_BadSum => k_is)
    (case ex_BadSum => k_is)
    (case tc_BadSum => k_is)
    (case kc_BadSum => k_is)
    (case xa_BadSum => k_is)
    (case xg_BadSum => k_is)
    (case xh_BadSum => k_is)
    (case no_BadSum_thing => k_is)
    (case a_BadField => k_is)
    (case i_BadField => k_is)
    (case ty_BadField => k_is)
    (case l_BadField => k_is)
    (case cc_BadField => k_is)
    (case k_BadField => k_is)
    (case cl_BadField => k_is)
    (case ve_BadField => decide +kernel)
    (case sa_BadField => k_is)
    (case ex_BadField => k_is)
    (case tc_BadField => k_is)
    (case kc_BadField => k_is)
    (case xa_BadField => k_is)
    (case xg_BadField => k_is)
    (case xh_BadField => k_is)
    (case no_BadField_name => k_is)
    (case m_BadSum_BadSum => k_is)
    (case m_BadSum_BadField => k_is)
    (case m_BadField_BadSum => k_is)
    (case m_BadField_BadField => k_is)
    (case l41 => k_is); (case l42 => k_is); (case n1 => first | rfl | kernel_rfl | decide +kernel); (case n2 => first | rfl | kernel_rfl); (case h1 => first | rfl | kernel_rfl); (case h2 => first | rfl | kernel_rfl)

