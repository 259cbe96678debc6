import PyProof.Rows.All
import Wide.All
import OpenK.AllK
import Wide.FinOn
import HandS.ForMost
import HandS.ForExc
import HandS.TupAny
import HandS.Walk
import HandS.Defaults
import HandS.IsInst
import HandS.Deep
import HandS.TupLen
import HandS.Conv
import HandS.SortInts
import KE.SortData
import KE.KDictSum
import PyProof.TupleOfSeq
import KE.GoesEnum
import HandS.Zip
import HandS.TupMul
import HandS.Dict
import HandS.ListItems
import KE.DataCmp
import HandS.HeadEnd
import HandS.TryMany
import HandS.ExcOwn
import HandS.HeadHook1
import HandS.Star
import KE.DataMinMax
import HandS.Sort
import PyProof.StrOps2
import HandS.DictComp
import KE.KDictWalk
import KE.KDictCopyH
import HandS.HeadHook2
import KE.KSortTupAny
import KE.KDictKeyed
import HandS.SortKw
import KE.SortKeyHeap
import HandS.TupSets
import HandS.ExcInit
import HandS.ExcField
import HandS.Nested
import KE.KExcSuper
import HandS.Zip0
import HandS.More
import KE.KStateDown
import Lean
import HandS.Base
import HandS.Call
import HandS.Ends
import HandS.Words
import HandS.WordsExc
import HandS.Head0
import HandS.Head1
import HandS.Head2
import PySem.Challenge.RW_roundowned_k76_whole_stands_compared
set_option Elab.async false
set_option linter.all false
set_option maxRecDepth 100000
set_option maxHeartbeats 4000000
namespace DL
open PySem PySem.Spec PyProof.Rows L2

inductive D where
  | non | bl (b : Bool) | int (i : Int) | str (s : Str) | tup (xs : List D) | lst (xs : List D)
  | dct (ks : List Key) (xs : List D) | dtt (ks : List (List Key)) (xs : List D) | obj (c : Str) (ns : List Str) (xs : List D) | glo (x : Str) | pool | scr (ns : List Int) | rng (lo hi : Int)

structure Gx where
  K : PySem.W.Frag
  mg : Str → Option Value
  pl : List Addr

/-- a tuple, tracked -/
def TpAt (_ : PySem.W.Frag) (H : Hp) (a : Addr) (xs : List V) : Prop := H a = some (.tup xs)
theorem TpAt.sq {K : PySem.W.Frag} {H : Hp} {a : Addr} {xs : List V} (h : TpAt K H a xs) : SqT K H a xs := .inl (.inl h)
/-! ### what a value stands for -/
mutual
def Is (G : Gx) (H : Hp) : D → V → Prop
  | .non, v => v = .non
  | .bl b, v => v = .bl b
  | .int i, v => v = .int i
  | .str s, v => v = .str s
  | .tup ds, v => ∃ a vs, v = .ref a ∧ TpAt G.K H a vs ∧ IsL G H ds vs
  | .lst ds, v => ∃ a vs, v = .ref a ∧ H a = some (.lst vs) ∧ IsL G H ds vs
  | .dct ks ds, v => ∃ a vs, v = .ref a ∧ Rd H a (.dK vs) ∧ vs.map Prod.fst = ks ∧ IsL G H ds (vs.map Prod.snd)
  | .dtt ks ds, v => ∃ a vs, v = .ref a ∧ Rd H a (.dT vs) ∧ vs.map Prod.fst = ks ∧ IsL G H ds (vs.map Prod.snd)
  | .obj c ns ds, v => ∃ a C dx vs, v = .ref a ∧ H a = some (.ins C dx vs) ∧ G.mg c = some (.ref C) ∧ vs.map Prod.fst = ns ∧ IsL G H ds (vs.map Prod.snd)
  | .glo x, v => ∃ a, v = .ref a ∧ G.mg x = some (.ref a)
  | .pool, v => ∃ p, v = .ref p ∧ G.pl.head? = some p
  | .scr ns, v => ∃ a, v = .ref a ∧ SqL G.K H a (ns.map V.int)
  | .rng lo hi, v => ∃ a, v = .ref a ∧ H a = some (.rng lo hi)
def IsL (G : Gx) (H : Hp) : List D → List V → Prop
  | [], vs => vs = []
  | d :: ds, vs => ∃ v r, vs = v :: r ∧ Is G H d v ∧ IsL G H ds r
end

def Ex (H H' : Hp) : Prop := ∀ a o, H a = some o → H' a = some o
theorem Ex.refl (H : Hp) : Ex H H := fun _ _ h => h
theorem Ex.trans {H H1 H2 : Hp} (a : Ex H H1) (b : Ex H1 H2) : Ex H H2 := fun x o h => b x o (a x o h)
theorem Ex.new {H : Hp} {p : Addr} {o : HO} (h : H p = none) : Ex H (upd H p o) := fun a u e => by
  rw [upd_ne (ne_of_none e h)]
  exact e
theorem Ex.rd {H H' : Hp} {a : Addr} {u : HO} (e : Ex H H') (h : Rd H a u) : Rd H' a u := by
  rcases h with h | ⟨o, h⟩
  · exact .inl (e a _ h)
  · exact .inr ⟨o, e a _ h⟩
theorem Ex.sl {K : PySem.W.Frag} {H H' : Hp} {a : Addr} {xs : List V} (e : Ex H H') (h : SqL K H a xs) : SqL K H' a xs := by
  rcases h with h | h
  · exact .inl (e.rd h)
  · exact .inr h
theorem Ex.st {K : PySem.W.Frag} {H H' : Hp} {a : Addr} {xs : List V} (e : Ex H H') (h : SqT K H a xs) : SqT K H' a xs := by
  rcases h with h | h
  · exact .inl (e.rd h)
  · exact .inr h
theorem Ex.tp {K : PySem.W.Frag} {H H' : Hp} {a : Addr} {xs : List V} (e : Ex H H') (h : TpAt K H a xs) : TpAt K H' a xs := e _ _ h
theorem Ex.back {H H' : Hp} {p : Addr} (e : Ex H H') (h : H' p = none) : H p = none := by
  cases h1 : H p with
  | none => rfl
  | some o => rw [e p o h1] at h; cases h

mutual
theorem Is.mono {G : Gx} {H H' : Hp} (e : Ex H H') : ∀ (d : D) (v : V), Is G H d v → Is G H' d v
  | .non, _, h => h
  | .bl _, _, h => h
  | .int _, _, h => h
  | .str _, _, h => h
  | .tup ds, _, h => let ⟨a, vs, e1, h1, h2⟩ := h; ⟨a, vs, e1, e.tp h1, IsL.mono e ds vs h2⟩
  | .lst ds, _, h => let ⟨a, vs, e1, h1, h2⟩ := h; ⟨a, vs, e1, e _ _ h1, IsL.mono e ds vs h2⟩
  | .dct _ ds, _, h => let ⟨a, vs, e1, h1, h2, h3⟩ := h; ⟨a, vs, e1, e.rd h1, h2, IsL.mono e ds _ h3⟩
  | .dtt _ ds, _, h => let ⟨a, vs, e1, h1, h2, h3⟩ := h; ⟨a, vs, e1, e.rd h1, h2, IsL.mono e ds _ h3⟩
  | .obj _ _ ds, _, h => let ⟨a, C, dx, vs, e1, h1, h0, h2, h3⟩ := h; ⟨a, C, dx, vs, e1, e _ _ h1, h0, h2, IsL.mono e ds _ h3⟩
  | .glo _, _, h => h
  | .pool, _, h => h
  | .scr _, _, h => let ⟨a, e1, h1⟩ := h; ⟨a, e1, e.sl h1⟩
  | .rng _ _, _, h => let ⟨a, e1, h1⟩ := h; ⟨a, e1, e _ _ h1⟩
theorem IsL.mono {G : Gx} {H H' : Hp} (e : Ex H H') : ∀ (ds : List D) (vs : List V), IsL G H ds vs → IsL G H' ds vs
  | [], _, h => h
  | d :: ds, _, h => let ⟨v, r, e1, h1, h2⟩ := h; ⟨v, r, e1, Is.mono e d v h1, IsL.mono e ds r h2⟩
end
end DL

namespace DL
open PySem PySem.Spec PyProof.Rows L2

/-! ### the heap without the pool -/
def hid (pl : List Addr) (H : Hp) : Hp := fun a => if a ∈ pl then none else H a
theorem hid_out {pl : List Addr} {H : Hp} {a : Addr} (h : a ∉ pl) : hid pl H a = H a := if_neg h
theorem hid_in {pl : List Addr} {H : Hp} {a : Addr} (h : a ∈ pl) : hid pl H a = none := if_pos h
theorem hid_nil {H : Hp} : hid [] H = H := by funext a; exact hid_out (by simp)
theorem hid_ex {pl : List Addr} {H : Hp} : Ex (hid pl H) H := fun a o e => by
  unfold hid at e
  split at e
  · cases e
  · exact e
theorem hid_some {pl : List Addr} {H : Hp} {a : Addr} {o : HO} (e : hid pl H a = some o) : a ∉ pl ∧ H a = some o := by
  unfold hid at e
  split at e
  · cases e
  · exact ⟨by assumption, e⟩
theorem hid_hid {pl : List Addr} {H H' : Hp} (h : Ex (hid pl H) H') : Ex (hid pl H) (hid pl H') := fun a o e => by
  rw [hid_out (hid_some e).1]
  exact h a o e
def PoolOk : List Addr → Hp → Prop
  | [], _ => True
  | [p, c], H => p ≠ c ∧ ∃ (s n : Int) (xs : List Int), H p = some (.lst [.int s, .int n, .ref c]) ∧ H c = some (.lst (xs.map V.int))
  | _, _ => False
theorem PoolOk.there {pl : List Addr} {H : Hp} (h : PoolOk pl H) {a : Addr} (ha : a ∈ pl) : ∃ xs, H a = some (.lst xs) := by
  match pl, h, ha with
  | [p, c], h, ha =>
    obtain ⟨_, s, n, xs, h1, h2⟩ := h
    rcases List.mem_cons.mp ha with rfl | ha
    · exact ⟨_, h1⟩
    · rcases List.mem_cons.mp ha with rfl | ha
      · exact ⟨_, h2⟩
      · cases ha
/-- nothing of the pool has changed -/
theorem PoolOk.same {pl : List Addr} {H H' : Hp} (h : PoolOk pl H) (k : Ex H H') : PoolOk pl H' := by
  match pl, h with
  | [], _ => trivial
  | [p, c], h =>
    obtain ⟨ne, s, n, xs, h1, h2⟩ := h
    exact ⟨ne, s, n, xs, k _ _ h1, k _ _ h2⟩

/-! ### the frozen part grows, the heap goes on -/
structure Gr (pl : List Addr) (F H F' H' : Hp) : Prop where
  ff : Ex F F'
  fh : Ex F' (hid pl H')
  hh : Ex (hid pl H) H'
  sep : ∀ a o, F' a = some o → F a = some o ∨ H a = none ∨ ∃ xs, o = .tup xs
  pool : PoolOk pl H'
section
variable {pl : List Addr} {F H F1 H1 F2 H2 F' H' : Hp}
theorem Gr.refl (h : Ex F (hid pl H)) (p : PoolOk pl H) : Gr pl F H F H := ⟨Ex.refl F, h, hid_ex, fun _ _ e => .inl e, p⟩
theorem Gr.trans (x : Gr pl F H F1 H1) (y : Gr pl F1 H1 F2 H2) : Gr pl F H F2 H2 where
  ff := x.ff.trans y.ff
  fh := y.fh
  hh := (hid_hid x.hh).trans y.hh
  pool := y.pool
  sep := fun a o e => by
    rcases y.sep a o e with h | h | h
    · exact x.sep a o h
    · refine .inr (.inl ?_)
      by_cases ha : a ∈ pl
      · obtain ⟨_, q⟩ := x.pool.there ha
        rw [q] at h; cases h
      · cases q : H a with
        | none => rfl
        | some u =>
          have := x.hh a u (by rw [hid_out ha]; exact q)
          rw [this] at h; cases h
    · exact .inr (.inr h)
/-- a new object is laid, and frozen -/
theorem Gr.new {p : Addr} {o : HO} (h : Ex F (hid pl H)) (q : PoolOk pl H) (hp : H p = none) : Gr pl F H (upd F p o) (upd H p o) := by
  have hpl : p ∉ pl := fun z => by
    obtain ⟨_, e⟩ := q.there z
    rw [hp] at e; cases e
  have fp : F p = none := by
    cases e : F p with
    | none => rfl
    | some u =>
      have := (hid_some (h p u e)).2
      rw [hp] at this; cases this
  refine ⟨Ex.new fp, fun a u e => ?_, fun a u e => ?_, fun a u e => ?_, q.same (Ex.new hp)⟩
  · by_cases ha : a = p
    · subst ha
      rw [upd_same] at e
      rw [hid_out hpl, upd_same]
      exact e
    · rw [upd_ne ha] at e
      have := hid_some (h a u e)
      rw [hid_out this.1, upd_ne ha]
      exact this.2
  · have := hid_some e
    exact Ex.new hp a u this.2
  · by_cases ha : a = p
    · subst ha
      exact .inr (.inl hp)
    · rw [upd_ne ha] at e
      exact .inl e
/-- a new object is laid, not frozen -/
theorem Gr.laid {p : Addr} {o : HO} (h : Ex F (hid pl H)) (q : PoolOk pl H) (hp : H p = none) : Gr pl F H F (upd H p o) := by
  refine ⟨Ex.refl F, fun a u e => ?_, fun a u e => Ex.new hp a u (hid_some e).2, fun a u e => .inl e, q.same (Ex.new hp)⟩
  have := hid_some (h a u e)
  rw [hid_out this.1]
  exact Ex.new hp a u this.2
/-- all that is tracked is the same -/
theorem Gr.same (h : Ex F (hid pl H)) (q : PoolOk pl H) (k : Ex H H') : Gr pl F H F H' :=
  ⟨Ex.refl F, fun a u e => by
    have := hid_some (h a u e)
    rw [hid_out this.1]
    exact k a u this.2, fun a u e => k a u (hid_some e).2, fun _ _ e => .inl e, q.same k⟩
end

/-! ### what is owned, to a depth: a value with its addresses -/
mutual
def OwnD (G : Gx) (F H : Hp) : D → Nat → V → List Addr → Prop
  | .lst ds, n, v, fp => match n with
    | 0 => Is G F (.lst ds) v ∧ fp = []
    | n + 1 => ∃ l vs r, v = .ref l ∧ F l = none ∧ H l = some (.lst vs) ∧ OwnL G F H ds n vs r ∧ fp = l :: r
  | .dct ks ds, n, v, fp => match n with
    | 0 => Is G F (.dct ks ds) v ∧ fp = []
    | n + 1 => ∃ l vs r, v = .ref l ∧ F l = none ∧ H l = some (.dK vs) ∧ vs.map Prod.fst = ks ∧ OwnL G F H ds n (vs.map Prod.snd) r ∧ fp = l :: r
  | .dtt ks ds, n, v, fp => match n with
    | 0 => Is G F (.dtt ks ds) v ∧ fp = []
    | n + 1 => ∃ l vs r, v = .ref l ∧ F l = none ∧ H l = some (.dT vs) ∧ vs.map Prod.fst = ks ∧ OwnL G F H ds n (vs.map Prod.snd) r ∧ fp = l :: r
  | .non, _, v, fp => Is G F .non v ∧ fp = []
  | .bl b, _, v, fp => Is G F (.bl b) v ∧ fp = []
  | .int b, _, v, fp => Is G F (.int b) v ∧ fp = []
  | .str b, _, v, fp => Is G F (.str b) v ∧ fp = []
  | .tup b, _, v, fp => Is G F (.tup b) v ∧ fp = []
  | .obj c ns ds, n, v, fp => match n with
    | 0 => Is G F (.obj c ns ds) v ∧ fp = []
    | n + 1 => ∃ l C dx vs r, v = .ref l ∧ F l = none ∧ H l = some (.ins C dx vs) ∧ G.mg c = some (.ref C) ∧ vs.map Prod.fst = ns ∧ OwnL G F H ds n (vs.map Prod.snd) r ∧ fp = l :: r
  | .glo b, _, v, fp => Is G F (.glo b) v ∧ fp = []
  | .pool, _, v, fp => Is G F .pool v ∧ fp = []
  | .scr ns, _, v, fp => Is G F (.scr ns) v ∧ fp = []
  | .rng a b, _, v, fp => Is G F (.rng a b) v ∧ fp = []
def OwnL (G : Gx) (F H : Hp) : List D → Nat → List V → List Addr → Prop
  | [], _, vs, fp => vs = [] ∧ fp = []
  | d :: ds, n, vs, fp => ∃ v r f1 f2, vs = v :: r ∧ OwnD G F H d n v f1 ∧ OwnL G F H ds n r f2 ∧ fp = f1 ++ f2
end
theorem OwnD.of {G : Gx} {F H : Hp} {d : D} {v : V} (h : Is G F d v) : OwnD G F H d 0 v [] := by
  cases d <;> exact ⟨h, rfl⟩
theorem OwnL.of {G : Gx} {F H : Hp} : ∀ {ds : List D} {vs : List V}, IsL G F ds vs → OwnL G F H ds 0 vs []
  | [], _, h => ⟨h, rfl⟩
  | _ :: _, _, h => let ⟨v, r, e, h1, h2⟩ := h; ⟨v, r, [], [], e, .of h1, .of h2, rfl⟩
theorem OwnD.zero {G : Gx} {F H : Hp} {d : D} {v : V} {fp : List Addr} (h : OwnD G F H d 0 v fp) : Is G F d v ∧ fp = [] := by
  cases d <;> exact h
/-- a list, a dict, an object: what can be owned -/
def canOwn : D → Bool
  | .lst _ => true | .dct _ _ => true | .dtt _ _ => true | .obj _ _ _ => true | _ => false
theorem OwnD.any {G : Gx} {F H : Hp} {d : D} {v : V} (hd : canOwn d = false) (n : Nat) (h : Is G F d v) : OwnD G F H d n v [] := by
  cases d <;> first | exact ⟨h, rfl⟩ | cases hd
mutual
theorem OwnD.step {G : Gx} {F H F' H' : Hp} (ff : Ex F F') : ∀ (d : D) (n : Nat) (v : V) (fp : List Addr), (∀ l ∈ fp, F' l = none ∧ ∀ o, H l = some o → H' l = some o) → OwnD G F H d n v fp → OwnD G F' H' d n v fp
  | .non, _, _, _, _, h => ⟨h.1.mono ff, h.2⟩
  | .bl _, _, _, _, _, h => ⟨h.1.mono ff, h.2⟩
  | .int _, _, _, _, _, h => ⟨h.1.mono ff, h.2⟩
  | .str _, _, _, _, _, h => ⟨h.1.mono ff, h.2⟩
  | .tup _, _, _, _, _, h => ⟨h.1.mono ff, h.2⟩
  | .glo _, _, _, _, _, h => ⟨h.1.mono ff, h.2⟩
  | .pool, _, _, _, _, h => ⟨h.1.mono ff, h.2⟩
  | .scr _, _, _, _, _, h => ⟨h.1.mono ff, h.2⟩
  | .rng _ _, _, _, _, _, h => ⟨h.1.mono ff, h.2⟩
  | .lst ds, 0, _, _, _, h => ⟨h.1.mono ff, h.2⟩
  | .dct _ ds, 0, _, _, _, h => ⟨h.1.mono ff, h.2⟩
  | .dtt _ ds, 0, _, _, _, h => ⟨h.1.mono ff, h.2⟩
  | .obj _ _ ds, 0, _, _, _, h => ⟨h.1.mono ff, h.2⟩
  | .obj _ _ ds, n + 1, _, fp, k, h => by
    obtain ⟨l, C, dx, vs, r, e, h1, h2, h5, h4, h3, e2⟩ := h
    subst e2
    exact ⟨l, C, dx, vs, r, e, (k l (by simp)).1, (k l (by simp)).2 _ h2, h5, h4, OwnL.step ff ds n _ r (fun x hx => k x (by simp [hx])) h3, rfl⟩
  | .lst ds, n + 1, _, fp, k, h => by
    obtain ⟨l, vs, r, e, h1, h2, h3, e2⟩ := h
    subst e2
    exact ⟨l, vs, r, e, (k l (by simp)).1, (k l (by simp)).2 _ h2, OwnL.step ff ds n vs r (fun x hx => k x (by simp [hx])) h3, rfl⟩
  | .dct _ ds, n + 1, _, fp, k, h => by
    obtain ⟨l, vs, r, e, h1, h2, h4, h3, e2⟩ := h
    subst e2
    exact ⟨l, vs, r, e, (k l (by simp)).1, (k l (by simp)).2 _ h2, h4, OwnL.step ff ds n _ r (fun x hx => k x (by simp [hx])) h3, rfl⟩
  | .dtt _ ds, n + 1, _, fp, k, h => by
    obtain ⟨l, vs, r, e, h1, h2, h4, h3, e2⟩ := h
    subst e2
    exact ⟨l, vs, r, e, (k l (by simp)).1, (k l (by simp)).2 _ h2, h4, OwnL.step ff ds n _ r (fun x hx => k x (by simp [hx])) h3, rfl⟩
theorem OwnL.step {G : Gx} {F H F' H' : Hp} (ff : Ex F F') : ∀ (ds : List D) (n : Nat) (vs : List V) (fp : List Addr), (∀ l ∈ fp, F' l = none ∧ ∀ o, H l = some o → H' l = some o) → OwnL G F H ds n vs fp → OwnL G F' H' ds n vs fp
  | [], _, _, _, _, h => h
  | d :: ds, n, _, fp, k, h => by
    obtain ⟨v, r, f1, f2, e, h1, h2, e2⟩ := h
    subst e2
    exact ⟨v, r, f1, f2, e, OwnD.step ff d n v f1 (fun x hx => k x (by simp [hx])) h1, OwnL.step ff ds n r f2 (fun x hx => k x (by simp [hx])) h2, rfl⟩
end
mutual
/- what is owned can be read: in any heap that holds the frozen part and the owned -/
theorem OwnD.is {G : Gx} {F H V' : Hp} (fv : Ex F V') : ∀ (d : D) (n : Nat) (v : V) (fp : List Addr), (∀ l ∈ fp, ∀ o, H l = some o → V' l = some o) → OwnD G F H d n v fp → Is G V' d v
  | .non, _, _, _, _, h => h.1.mono fv
  | .bl _, _, _, _, _, h => h.1.mono fv
  | .int _, _, _, _, _, h => h.1.mono fv
  | .str _, _, _, _, _, h => h.1.mono fv
  | .tup _, _, _, _, _, h => h.1.mono fv
  | .glo _, _, _, _, _, h => h.1.mono fv
  | .pool, _, _, _, _, h => h.1.mono fv
  | .scr _, _, _, _, _, h => h.1.mono fv
  | .rng _ _, _, _, _, _, h => h.1.mono fv
  | .lst ds, 0, _, _, _, h => h.1.mono fv
  | .dct _ ds, 0, _, _, _, h => h.1.mono fv
  | .dtt _ ds, 0, _, _, _, h => h.1.mono fv
  | .obj _ _ ds, 0, _, _, _, h => h.1.mono fv
  | .obj _ _ ds, n + 1, _, fp, k, h => by
    obtain ⟨l, C, dx, vs, r, e, h1, h2, h5, h4, h3, e2⟩ := h
    subst e2
    exact ⟨l, C, dx, vs, e, k l (by simp) _ h2, h5, h4, OwnL.is fv ds n _ r (fun x hx => k x (by simp [hx])) h3⟩
  | .lst ds, n + 1, _, fp, k, h => by
    obtain ⟨l, vs, r, e, h1, h2, h3, e2⟩ := h
    subst e2
    exact ⟨l, vs, e, k l (by simp) _ h2, OwnL.is fv ds n vs r (fun x hx => k x (by simp [hx])) h3⟩
  | .dct _ ds, n + 1, _, fp, k, h => by
    obtain ⟨l, vs, r, e, h1, h2, h4, h3, e2⟩ := h
    subst e2
    exact ⟨l, vs, e, .inl (k l (by simp) _ h2), h4, OwnL.is fv ds n _ r (fun x hx => k x (by simp [hx])) h3⟩
  | .dtt _ ds, n + 1, _, fp, k, h => by
    obtain ⟨l, vs, r, e, h1, h2, h4, h3, e2⟩ := h
    subst e2
    exact ⟨l, vs, e, .inl (k l (by simp) _ h2), h4, OwnL.is fv ds n _ r (fun x hx => k x (by simp [hx])) h3⟩
theorem OwnL.is {G : Gx} {F H V' : Hp} (fv : Ex F V') : ∀ (ds : List D) (n : Nat) (vs : List V) (fp : List Addr), (∀ l ∈ fp, ∀ o, H l = some o → V' l = some o) → OwnL G F H ds n vs fp → IsL G V' ds vs
  | [], _, _, _, _, h => h.1
  | d :: ds, n, _, fp, k, h => by
    obtain ⟨v, r, f1, f2, e, h1, h2, e2⟩ := h
    subst e2
    exact ⟨v, r, e, OwnD.is fv d n v f1 (fun x hx => k x (by simp [hx])) h1, OwnL.is fv ds n r f2 (fun x hx => k x (by simp [hx])) h2⟩
end
mutual
theorem OwnD.there {G : Gx} {F H : Hp} : ∀ (d : D) (n : Nat) (v : V) (fp : List Addr), OwnD G F H d n v fp → ∀ l ∈ fp, F l = none ∧ ∃ o, H l = some o ∧ ∀ xs, o ≠ .tup xs
  | .non, _, _, _, h, l, hl => by rw [h.2] at hl; cases hl
  | .bl _, _, _, _, h, l, hl => by rw [h.2] at hl; cases hl
  | .int _, _, _, _, h, l, hl => by rw [h.2] at hl; cases hl
  | .str _, _, _, _, h, l, hl => by rw [h.2] at hl; cases hl
  | .tup _, _, _, _, h, l, hl => by rw [h.2] at hl; cases hl
  | .glo _, _, _, _, h, l, hl => by rw [h.2] at hl; cases hl
  | .pool, _, _, _, h, l, hl => by rw [h.2] at hl; cases hl
  | .scr _, _, _, _, h, l, hl => by rw [h.2] at hl; cases hl
  | .rng _ _, _, _, _, h, l, hl => by rw [h.2] at hl; cases hl
  | .lst ds, 0, _, _, h, l, hl => by rw [h.2] at hl; cases hl
  | .dct _ ds, 0, _, _, h, l, hl => by rw [h.2] at hl; cases hl
  | .dtt _ ds, 0, _, _, h, l, hl => by rw [h.2] at hl; cases hl
  | .obj _ _ ds, 0, _, _, h, l, hl => by rw [h.2] at hl; cases hl
  | .obj _ _ ds, n + 1, _, fp, h, l, hl => by
    obtain ⟨l', C, dx, vs, r, e, h1, h2, h5, h4, h3, e2⟩ := h
    subst e2
    rcases List.mem_cons.mp hl with rfl | hl
    · exact ⟨h1, _, h2, fun _ z => by cases z⟩
    · exact OwnL.there ds n _ r h3 l hl
  | .lst ds, n + 1, _, fp, h, l, hl => by
    obtain ⟨l', vs, r, e, h1, h2, h3, e2⟩ := h
    subst e2
    rcases List.mem_cons.mp hl with rfl | hl
    · exact ⟨h1, _, h2, fun _ z => by cases z⟩
    · exact OwnL.there ds n vs r h3 l hl
  | .dct _ ds, n + 1, _, fp, h, l, hl => by
    obtain ⟨l', vs, r, e, h1, h2, h4, h3, e2⟩ := h
    subst e2
    rcases List.mem_cons.mp hl with rfl | hl
    · exact ⟨h1, _, h2, fun _ z => by cases z⟩
    · exact OwnL.there ds n _ r h3 l hl
  | .dtt _ ds, n + 1, _, fp, h, l, hl => by
    obtain ⟨l', vs, r, e, h1, h2, h4, h3, e2⟩ := h
    subst e2
    rcases List.mem_cons.mp hl with rfl | hl
    · exact ⟨h1, _, h2, fun _ z => by cases z⟩
    · exact OwnL.there ds n _ r h3 l hl
theorem OwnL.there {G : Gx} {F H : Hp} : ∀ (ds : List D) (n : Nat) (vs : List V) (fp : List Addr), OwnL G F H ds n vs fp → ∀ l ∈ fp, F l = none ∧ ∃ o, H l = some o ∧ ∀ xs, o ≠ .tup xs
  | [], _, _, _, h, l, hl => by rw [h.2] at hl; cases hl
  | d :: ds, n, _, fp, h, l, hl => by
    obtain ⟨v, r, f1, f2, e, h1, h2, e2⟩ := h
    subst e2
    rcases List.mem_append.mp hl with hl | hl
    · exact OwnD.there d n v f1 h1 l hl
    · exact OwnL.there ds n r f2 h2 l hl
end
end DL

namespace DL
open PySem PySem.Spec PyProof.Rows L2

/-! ### meanings over data -/
/-- an exception of a class of the program: its class, the names and values of its fields -/
structure Xn where
  c : Str
  ns : List Str
  ds : List D
abbrev W (α : Type) := (α → Prop) → (Xn → Prop) → Prop
abbrev Env := List (Option D)
inductive Fl where
  | next (ρ : Env) | brk (ρ : Env) | cont (ρ : Env) | ret (d : D)

/-! ### states -/
inductive Md where | v | o (n : Nat) | b | p (n : Nat) (u : V)
/-- p: owned, and its value is u -/
def Md.own : Md → Option Nat
  | .o n => some n
  | .p n _ => some n
  | _ => none
def ownAt (M : List Md) (i : Nat) : Option Nat := match M[i]? with | some m => m.own | none => none
structure Cf where
  pl : List Addr
  F0 : Hp
  H0 : Hp
abbrev gx (X : Cx) (C : Cf) : Gx := ⟨X.K, X.mg, C.pl⟩
structure SR0 (C : Cf) (F H : Hp) : Prop where
  stay : Ex (hid C.pl C.H0) H
  ff : Ex C.F0 F
  fh : Ex F (hid C.pl H)
  sep : ∀ a o, F a = some o → C.F0 a = some o ∨ C.H0 a = none ∨ ∃ xs, o = .tup xs
  pool : PoolOk C.pl H
theorem SR0.gr {C : Cf} {F H F' H' : Hp} (s : SR0 C F H) (g : Gr C.pl F H F' H') : SR0 C F' H' where
  stay := (hid_hid s.stay).trans g.hh
  ff := s.ff.trans g.ff
  fh := g.fh
  pool := g.pool
  sep := fun a o e => by
    rcases g.sep a o e with h | h | h
    · exact s.sep a o h
    · refine .inr (.inl ?_)
      cases q : C.H0 a with
      | none => rfl
      | some u =>
        by_cases ha : a ∈ C.pl
        · obtain ⟨_, e⟩ := s.pool.there ha
          rw [h] at e; cases e
        · have := s.stay a u (by rw [hid_out ha]; exact q)
          rw [h] at this; cases this
    · exact .inr (.inr h)
theorem SR0.toGr {C : Cf} {F H : Hp} (s : SR0 C F H) : Gr C.pl C.F0 C.H0 F H := ⟨s.ff, s.fh, s.stay, s.sep, s.pool⟩
theorem SR0.old {C : Cf} {F H : Hp} (s : SR0 C F H) {a : Addr} (h : H a = none) : C.H0 a = none := by
  cases q : C.H0 a with
  | none => rfl
  | some u =>
    by_cases ha : a ∈ C.pl
    · obtain ⟨_, e⟩ := s.pool.there ha
      rw [h] at e; cases e
    · have := s.stay a u (by rw [hid_out ha]; exact q)
      rw [h] at this; cases this
theorem SR0.nofresh {C : Cf} {F H : Hp} (s : SR0 C F H) {a : Addr} (h : H a = none) : F a = none ∧ a ∉ C.pl := by
  refine ⟨?_, fun z => ?_⟩
  · cases q : F a with
    | none => rfl
    | some u =>
      have := (hid_some (s.fh a u q)).2
      rw [h] at this; cases this
  · obtain ⟨_, e⟩ := s.pool.there z
    rw [h] at e; cases e
def SlotOk (G : Gx) (C : Cf) (F H : Hp) : Md → D → V → List Addr → Prop
  | .v, d, v, fp => Is G F d v ∧ fp = []
  | .b, d, v, fp => Is G (hid C.pl C.H0) d v ∧ fp = []
  | .o n, d, v, fp => OwnD G F H d n v fp
  | .p n u, d, v, fp => v = u ∧ OwnD G F H d n v fp
structure Fps (C : Cf) (F H : Hp) (fp : Nat → List Addr) : Prop where
  nd : ∀ i, (fp i).Nodup
  dj : ∀ i j l, i ≠ j → l ∈ fp i → l ∉ fp j
  out : ∀ i l, l ∈ fp i → F l = none ∧ C.H0 l = none ∧ l ∉ C.pl ∧ ∃ o, H l = some o ∧ ∀ xs, o ≠ .tup xs
structure SR (G : Gx) (C : Cf) (M : List Md) (F H : Hp) (σ : L2.St) (ρ : Env) : Prop where
  base : SR0 C F H
  ls : σ.length = M.length
  lr : ρ.length = M.length
  own : ∃ fp : Nat → List Addr, Fps C F H fp ∧ ∀ (i : Nat) (d : D), ρ[i]? = some (some d) → ∃ m v, M[i]? = some m ∧ σ[i]? = some (some v) ∧ SlotOk G C F H m d v (fp i)
theorem Fps.gr {C : Cf} {F H F' H' : Hp} {fp : Nat → List Addr} (f : Fps C F H fp) (g : Gr C.pl F H F' H') : Fps C F' H' fp where
  nd := f.nd
  dj := f.dj
  out := fun i l hl => by
    obtain ⟨h1, h2, h3, o, h4, h5⟩ := f.out i l hl
    have h6 : H' l = some o := g.hh l o (by rw [hid_out h3]; exact h4)
    refine ⟨?_, h2, h3, o, h6, h5⟩
    cases q : F' l with
    | none => rfl
    | some u =>
      rcases g.sep l u q with e | e | ⟨xs, e⟩
      · rw [h1] at e; cases e
      · rw [h4] at e; cases e
      · have := (hid_some (g.fh l u q)).2
        rw [h6] at this; cases this
        exact absurd e (h5 xs)
theorem SlotOk.gr {G : Gx} {C : Cf} {F H F' H' : Hp} {m : Md} {d : D} {v : V} {fp : List Addr} (g : Gr C.pl F H F' H') (k : ∀ l ∈ fp, F' l = none ∧ l ∉ C.pl) (h : SlotOk G C F H m d v fp) : SlotOk G C F' H' m d v fp := by
  cases m with
  | v => exact ⟨h.1.mono g.ff, h.2⟩
  | b => exact h
  | o n => exact OwnD.step g.ff d n v fp (fun l hl => ⟨(k l hl).1, fun o e => g.hh l o (by rw [hid_out (k l hl).2]; exact e)⟩) h
  | p n u => exact ⟨h.1, OwnD.step g.ff d n v fp (fun l hl => ⟨(k l hl).1, fun o e => g.hh l o (by rw [hid_out (k l hl).2]; exact e)⟩) h.2⟩
theorem SR.gr {G : Gx} {C : Cf} {M : List Md} {F H F' H' : Hp} {σ : L2.St} {ρ : Env} (s : SR G C M F H σ ρ) (g : Gr C.pl F H F' H') : SR G C M F' H' σ ρ := by
  obtain ⟨fp, f, h⟩ := s.own
  have f' := f.gr g
  refine ⟨s.base.gr g, s.ls, s.lr, fp, f', fun i d e => ?_⟩
  obtain ⟨m, v, e1, e2, h1⟩ := h i d e
  exact ⟨m, v, e1, e2, h1.gr g fun l hl => ⟨(f'.out i l hl).1, (f'.out i l hl).2.2.1⟩⟩

/-! ### freezing -/
/-- F with the objects at fp as they stand in H -/
def frz (F H : Hp) (fp : List Addr) : Hp := fun a => if a ∈ fp then H a else F a
theorem frz_in {F H : Hp} {fp : List Addr} {a : Addr} (h : a ∈ fp) : frz F H fp a = H a := if_pos h
theorem frz_out {F H : Hp} {fp : List Addr} {a : Addr} (h : a ∉ fp) : frz F H fp a = F a := if_neg h
theorem frz_ex {F H : Hp} {fp : List Addr} (h : ∀ l ∈ fp, F l = none) : Ex F (frz F H fp) := fun a o e => by
  by_cases ha : a ∈ fp
  · rw [h a ha] at e; cases e
  · rw [frz_out ha]; exact e
theorem frz_hid {F H : Hp} {fp pl : List Addr} (h : Ex F (hid pl H)) (k : ∀ l ∈ fp, l ∉ pl) : Ex (frz F H fp) (hid pl H) := fun a o e => by
  by_cases ha : a ∈ fp
  · rw [frz_in ha] at e
    rw [hid_out (k a ha)]; exact e
  · rw [frz_out ha] at e
    exact h a o e
theorem OwnD.freeze {G : Gx} {F H : Hp} {d : D} {n : Nat} {v : V} {fp : List Addr} (h : OwnD G F H d n v fp) : Is G (frz F H fp) d v :=
  OwnD.is (frz_ex fun l hl => (OwnD.there d n v fp h l hl).1) d n v fp (fun l hl o e => by rw [frz_in hl]; exact e) h
theorem Gr.freeze {pl fp : List Addr} {F H F' H' : Hp} (g : Gr pl F H F' H') (k : ∀ l ∈ fp, F' l = none ∧ H l = none ∧ l ∉ pl) : Gr pl F H (frz F' H' fp) H' where
  ff := g.ff.trans (frz_ex fun l hl => (k l hl).1)
  fh := frz_hid g.fh fun l hl => (k l hl).2.2
  hh := g.hh
  pool := g.pool
  sep := fun a o e => by
    by_cases ha : a ∈ fp
    · exact .inr (.inl (k a ha).2.1)
    · rw [frz_out ha] at e
      exact g.sep a o e

/-! ### kinds of results -/
inductive Kd where | v | r | n (n : Nat)
def Kd.isN : Kd → Bool | .n _ => true | _ => false
def Kd.isR : Kd → Bool | .r => true | _ => false
/-- B: what is fresh is fresh ahead of -/
def KOk (G : Gx) (B F' H' : Hp) : Kd → D → V → Prop
  | .v, d, v => Is G F' d v
  | .r, d, v => Is G (hid G.pl H') d v
  | .n n, d, v => ∃ fp, OwnD G F' H' d n v fp ∧ fp.Nodup ∧ ∀ l ∈ fp, B l = none
def IsX (G : Gx) (F H : Hp) (x : Xn) (cls : Value) (dd : Option Addr) : Prop :=
  ∃ Cl, cls = .ref Cl ∧ G.mg x.c = some (.ref Cl) ∧ ((x.ns = [] ∧ x.ds = [] ∧ dd = none) ∨ ∃ d vs, dd = some d ∧ H d = some (.xd vs) ∧ vs.map Prod.fst = x.ns ∧ IsL G F x.ds (vs.map Prod.snd))

/-! ### what a reading comes to -/
def SE (G : Gx) (C : Cf) (M : List Md) (Wx : WX) (k : Kd) (te : TE) (w : Env → W D) : Prop :=
  ∀ (F H : Hp) (σ : L2.St) (ρ : Env), SR G C M F H σ ρ → ∀ (Qd : D → Prop) (Ed : Xn → Prop) (Q : VK), w ρ Qd Ed →
    (∀ d v F' H', Gr C.pl F H F' H' → KOk G H F' H' k d v → Qd d → Q v H') →
    (∀ x cls dd F' H', Gr C.pl F H F' H' → IsX G F' H' x cls dd → Ed x → Wx cls dd σ H') → te σ H Q
def ST (G : Gx) (C : Cf) (M : List Md) (Wx : WX) (tt : TT) (w : Env → W Bool) : Prop :=
  ∀ (F H : Hp) (σ : L2.St) (ρ : Env), SR G C M F H σ ρ → ∀ (Qd : Bool → Prop) (Ed : Xn → Prop) (Q : Bool → Hp → Prop), w ρ Qd Ed →
    (∀ b F' H', Gr C.pl F H F' H' → Qd b → Q b H') →
    (∀ x cls dd F' H', Gr C.pl F H F' H' → IsX G F' H' x cls dd → Ed x → Wx cls dd σ H') → tt σ H Q
def ArgOk (G : Gx) (F H : Hp) : Md → D → V → Prop
  | .v, d, v => Is G F d v
  | .b, d, v => Is G (hid G.pl H) d v
  | .o _, _, _ => False
  | .p _ _, _, _ => False
inductive ArgsOk (G : Gx) (F H : Hp) : List Md → List D → List V → Prop
  | nil : ArgsOk G F H [] [] []
  | cons {m d v ms ds vs} : ArgOk G F H m d v → ArgsOk G F H ms ds vs → ArgsOk G F H (m :: ms) (d :: ds) (v :: vs)
def SA (G : Gx) (C : Cf) (M : List Md) (Wx : WX) (ar : List Md) (ta : TA) (w : Env → W (List D)) : Prop :=
  ∀ (F H : Hp) (σ : L2.St) (ρ : Env), SR G C M F H σ ρ → ∀ (Qd : List D → Prop) (Ed : Xn → Prop) (Q : List V → Hp → Prop), w ρ Qd Ed →
    (∀ ds vs F' H', Gr C.pl F H F' H' → ArgsOk G F' H' ar ds vs → Qd ds → Q vs H') →
    (∀ x cls dd F' H', Gr C.pl F H F' H' → IsX G F' H' x cls dd → Ed x → Wx cls dd σ H') → ta σ H Q
/-- Ml: the modes at a loop's head; rk: the kind of what is returned -/
def SS (G : Gx) (C : Cf) (Ml : List Md) (rk : Kd) (Wx : WX) (M M' : List Md) (ts : TS) (w : Env → W Fl) : Prop :=
  ∀ (F H : Hp) (σ : L2.St) (ρ : Env), SR G C M F H σ ρ → ∀ (Qd : Fl → Prop) (Ed : Xn → Prop) (D_ : Ends), w ρ Qd Ed →
    (∀ σ' ρ' F' H', Ex F F' → SR G C M' F' H' σ' ρ' → Qd (.next ρ') → D_.nx σ' H') →
    (∀ σ' ρ' F' H', Ex F F' → SR G C Ml F' H' σ' ρ' → Qd (.brk ρ') → D_.bk σ' H') →
    (∀ σ' ρ' F' H', Ex F F' → SR G C Ml F' H' σ' ρ' → Qd (.cont ρ') → D_.ct σ' H') →
    (∀ d v F' H', Ex F F' → SR0 C F' H' → KOk G C.H0 F' H' rk d v → Qd (.ret d) → D_.rt v H') →
    (∀ x cls dd σ' F' H', Ex F F' → SR0 C F' H' → IsX G F' H' x cls dd → Ed x → Wx cls dd σ' H') → ts D_ σ H

/-! ### syntax with its meaning -/
structure DE (X : Cx) (C : Cf) (M : List Md) (Wx : WX) (k : Kd) (e : Expr) (w : Env → W D) : Prop where
  ex : ∃ te, PE X e te ∧ SE (gx X C) C M Wx k te w
structure DT (X : Cx) (C : Cf) (M : List Md) (Wx : WX) (e : Expr) (w : Env → W Bool) : Prop where
  ex : ∃ te, PT X e te ∧ ST (gx X C) C M Wx te w
structure DA (X : Cx) (C : Cf) (M : List Md) (Wx : WX) (ar : List Md) (es : List Expr) (w : Env → W (List D)) : Prop where
  ex : ∃ te, PA X es te ∧ SA (gx X C) C M Wx ar te w
structure DS (X : Cx) (C : Cf) (Ml : List Md) (rk : Kd) (Wx : WX) (M M' : List Md) (st : Stmt) (w : Env → W Fl) : Prop where
  ex : ∃ ts, PS X st ts ∧ SS (gx X C) C Ml rk Wx M M' ts w
structure DSs (X : Cx) (C : Cf) (Ml : List Md) (rk : Kd) (Wx : WX) (M M' : List Md) (st : List Stmt) (w : Env → W Fl) : Prop where
  ex : ∃ ts, PSs X st ts ∧ SS (gx X C) C Ml rk Wx M M' ts w

/-! ### weaker kinds -/
theorem KOk.v_of_n {G : Gx} {C : Cf} {F H F' H' : Hp} (g : Gr C.pl F H F' H') (p : PoolOk C.pl H) {d : D} {n : Nat} {v : V} (h : KOk G H F' H' (.n n) d v) : ∃ F2, Gr C.pl F H F2 H' ∧ Is G F2 d v := by
  obtain ⟨fp, o, nd, k⟩ := h
  refine ⟨frz F' H' fp, g.freeze fun l hl => ⟨(OwnD.there d n v fp o l hl).1, k l hl, fun z => ?_⟩, o.freeze⟩
  obtain ⟨_, e⟩ := p.there z
  rw [k l hl] at e; cases e
section
variable {X : Cx} {C : Cf} {M : List Md} {Wx : WX} {e : Expr} {w : Env → W D}
theorem DE.v_of_n {n : Nat} (h : DE X C M Wx (.n n) e w) : DE X C M Wx .v e w := by
  obtain ⟨te, p, s⟩ := h.ex
  refine ⟨te, p, fun F H σ ρ r Qd Ed Q hw hq hx => s F H σ ρ r Qd Ed Q hw (fun d v F' H' g k q => ?_) hx⟩
  obtain ⟨F2, g2, i⟩ := KOk.v_of_n g r.base.pool k
  exact hq d v F2 H' g2 i q
theorem DE.r_of_v (h : DE X C M Wx .v e w) : DE X C M Wx .r e w := by
  obtain ⟨te, p, s⟩ := h.ex
  exact ⟨te, p, fun F H σ ρ r Qd Ed Q hw hq hx => s F H σ ρ r Qd Ed Q hw (fun d v F' H' g k q => hq d v F' H' g (Is.mono g.fh d v k) q) hx⟩
theorem DE.r_of_n {n : Nat} (h : DE X C M Wx (.n n) e w) : DE X C M Wx .r e w := h.v_of_n.r_of_v
end
end DL

namespace DL
open PySem PySem.Spec PyProof.Rows L2

/-! ### combinators of meanings -/
def varW (i : Nat) : Env → W D := fun ρ Q _ => match ρ[i]? with | some (some d) => Q d | _ => False
def cW (d : D) : Env → W D := fun _ Q _ => Q d
def unW (f : D → W D) (wa : Env → W D) : Env → W D := fun ρ Q E => wa ρ (fun x => f x Q E) E
def binW (f : D → D → W D) (wa wb : Env → W D) : Env → W D := fun ρ Q E => wa ρ (fun x => wb ρ (fun y => f x y Q E) E) E
def nilW : Env → W (List D) := fun _ Q _ => Q []
def consW (wa : Env → W D) (wr : Env → W (List D)) : Env → W (List D) := fun ρ Q E => wa ρ (fun x => wr ρ (fun xs => Q (x :: xs)) E) E
def appW (f : List D → W D) (ws : Env → W (List D)) : Env → W D := fun ρ Q E => ws ρ (fun xs => f xs Q E) E
/-- a value that is a bool, as a test; the truth of any -/
def blW (wa : Env → W D) : Env → W Bool := fun ρ Q E => wa ρ (fun x => match x with | .bl b => Q b | _ => False) E
def trW (wa : Env → W D) : Env → W Bool := fun ρ Q E => wa ρ (fun x => match x with | .bl b => Q b | .int i => Q (i != 0) | .non => Q false | _ => False) E
def notT (wa : Env → W Bool) : Env → W Bool := fun ρ Q E => wa ρ (fun b => Q (!b)) E
def andT (wa wb : Env → W Bool) : Env → W Bool := fun ρ Q E => wa ρ (fun b => if b = true then wb ρ Q E else Q false) E
def orT (wa wb : Env → W Bool) : Env → W Bool := fun ρ Q E => wa ρ (fun b => if b = true then Q true else wb ρ Q E) E
def andV (wa wb : Env → W D) : Env → W D := fun ρ Q E => wa ρ (fun x => match x with | .bl b => if b = true then wb ρ Q E else Q (.bl false) | _ => False) E
def orV (wa wb : Env → W D) : Env → W D := fun ρ Q E => wa ρ (fun x => match x with | .bl b => if b = true then Q (.bl true) else wb ρ Q E | _ => False) E
def notV (wa : Env → W D) : Env → W D := fun ρ Q E => wa ρ (fun x => match x with | .bl b => Q (.bl (!b)) | _ => False) E
def ifW (wt : Env → W Bool) (wa wb : Env → W D) : Env → W D := fun ρ Q E => wt ρ (fun b => if b = true then wa ρ Q E else wb ρ Q E) E

section
variable {X : Cx} {C : Cf} {M : List Md} {Wx : WX} {pos : Pos}
/-! ### names and constants -/
theorem SR.get {G : Gx} {C : Cf} {M : List Md} {F H : Hp} {σ : L2.St} {ρ : Env} (s : SR G C M F H σ ρ) {i : Nat} {d : D} (h : ρ[i]? = some (some d)) : ∃ m v fp, M[i]? = some m ∧ σ[i]? = some (some v) ∧ SlotOk G C F H m d v fp ∧ (∀ l ∈ fp, F l = none ∧ l ∉ C.pl) := by
  obtain ⟨fp, f, k⟩ := s.own
  obtain ⟨m, v, e1, e2, h1⟩ := k i d h
  exact ⟨m, v, fp i, e1, e2, h1, fun l hl => ⟨(f.out i l hl).1, (f.out i l hl).2.2.1⟩⟩
theorem varW_some {i : Nat} {ρ : Env} {Q : D → Prop} {E : Xn → Prop} (h : varW i ρ Q E) : ∃ d, ρ[i]? = some (some d) ∧ Q d := by
  unfold varW at h
  split at h
  · exact ⟨_, by assumption, h⟩
  · cases h
theorem de_var {i : Nat} {x : Str} (hM : M[i]? = some .v) (hN : X.N[i]? = some x) (hv : Vis X.env.scope x) (hd : (x == ("__debug__" : Str)) = false := by decide) (hcd : (x == ("__classdict__" : Str)) = false := by decide) :
    DE X C M Wx .v (.Name x pos) (varW i) := by
  refine ⟨_, pe_var hN hv hd hcd, fun F H σ ρ r Qd Ed Q hw hq _ => ?_⟩
  obtain ⟨d, e, q⟩ := varW_some hw
  obtain ⟨m, v, fp, e1, e2, h1, _⟩ := r.get e
  rw [hM] at e1; cases e1
  exact ⟨v, e2, hq d v F H (Gr.refl r.base.fh r.base.pool) h1.1 q⟩
/-- any name, to be read -/
theorem de_varR {i : Nat} {x : Str} (hN : X.N[i]? = some x) (hv : Vis X.env.scope x) (hd : (x == ("__debug__" : Str)) = false := by decide) (hcd : (x == ("__classdict__" : Str)) = false := by decide) :
    DE X C M Wx .r (.Name x pos) (varW i) := by
  refine ⟨_, pe_var hN hv hd hcd, fun F H σ ρ r Qd Ed Q hw hq _ => ?_⟩
  obtain ⟨d, e, q⟩ := varW_some hw
  obtain ⟨m, v, fp, e1, e2, h1, k⟩ := r.get e
  refine ⟨v, e2, hq d v F H (Gr.refl r.base.fh r.base.pool) ?_ q⟩
  cases m with
  | v => exact Is.mono r.base.fh d v h1.1
  | b => exact Is.mono (hid_hid r.base.stay) d v h1.1
  | o n => exact OwnD.is r.base.fh d n v fp (fun l hl o e => by rw [hid_out (k l hl).2]; exact e) h1
  | p n u => exact OwnD.is r.base.fh d n v fp (fun l hl o e => by rw [hid_out (k l hl).2]; exact e) h1.2
theorem de_c {e : Expr} {d : D} {v : V} (h : PE X e (tC v)) (i : ∀ F, Is (gx X C) F d v) : DE X C M Wx .v e (cW d) :=
  ⟨_, h, fun F H σ ρ r Qd Ed Q hw hq _ => hq d v F H (Gr.refl r.base.fh r.base.pool) (i F) hw⟩
theorem de_int {i : Int} {j} : DE X C M Wx .v (.Constant (.int i) j pos) (cW (.int i)) := de_c pe_int fun _ => rfl
theorem de_bl {b : Bool} {j} : DE X C M Wx .v (.Constant (.bool b) j pos) (cW (.bl b)) := de_c pe_bl fun _ => rfl
theorem de_non {j} : DE X C M Wx .v (.Constant .none j pos) (cW .non) := de_c pe_non fun _ => rfl
theorem de_str {x : Str} {j} : DE X C M Wx .v (.Constant (.str x) j pos) (cW (.str x)) := de_c pe_str fun _ => rfl
/-- a whole number of the module -/
theorem de_gint {x : Str} {i : Int} (hg : Gl X x) (hm : ∃ t, X.mg x = some (.int i t)) (hd : (x == ("__debug__" : Str)) = false := by decide) : DE X C M Wx .v (.Name x pos) (cW (.int i)) := by
  obtain ⟨t, hm⟩ := hm
  exact de_c (pe_glob (v := .int i) hg hm ⟨t, rfl⟩ hd) fun _ => rfl
/-- a def, a class as a value -/
theorem de_glo {x : Str} {a : Addr} (hg : Gl X x) (hm : X.mg x = some (.ref a)) (hd : (x == ("__debug__" : Str)) = false := by decide) : DE X C M Wx .v (.Name x pos) (cW (.glo x)) :=
  de_c (pe_glob (v := .ref a) hg hm rfl hd) fun _ => ⟨a, rfl, hm⟩

/-! ### operators -/
def KIn (G : Gx) (F H : Hp) : Kd → D → V → Prop
  | .v, d, v => Is G F d v
  | .r, d, v => Is G (hid G.pl H) d v
  | .n _, _, _ => False
theorem KIn.gr {G : Gx} {F H F' H' : Hp} {k : Kd} {d : D} {v : V} (g : Gr G.pl F H F' H') (h : KIn G F H k d v) : KIn G F' H' k d v := by
  cases k with
  | v => exact Is.mono g.ff d v h
  | r => exact Is.mono (hid_hid g.hh) d v h
  | n => exact h
theorem KIn.of {G : Gx} {B F H : Hp} {k : Kd} {d : D} {v : V} (hk : k.isN = false) (h : KOk G B F H k d v) : KIn G F H k d v := by
  cases k with
  | v => exact h
  | r => exact h
  | n => cases hk
theorem KOk.gr {G : Gx} {B B' F H : Hp} {k : Kd} {d : D} {v : V} (hb : ∀ a, B' a = none → B a = none) (h : KOk G B' F H k d v) : KOk G B F H k d v := by
  cases k with
  | v => exact h
  | r => exact h
  | n => obtain ⟨fp, o, nd, q⟩ := h; exact ⟨fp, o, nd, fun l hl => hb l (q l hl)⟩
theorem Gr.back {pl : List Addr} {F H F' H' : Hp} (p : PoolOk pl H') (g : Gr pl F H F' H') (a : Addr) (h : H' a = none) : H a = none := by
  by_cases ha : a ∈ pl
  · obtain ⟨_, e⟩ := p.there ha
    rw [h] at e; cases e
  · cases q : H a with
    | none => rfl
    | some u =>
      have := g.hh a u (by rw [hid_out ha]; exact q)
      rw [h] at this; cases this
/-- a value's operation -/
def UnS (G : Gx) (k1 k : Kd) (r : V → Hp → VK → Prop) (f : D → W D) : Prop :=
  ∀ (F H : Hp), Ex F (hid G.pl H) → PoolOk G.pl H → ∀ x v, KIn G F H k1 x v → ∀ (Qd : D → Prop) (Ed : Xn → Prop) (Q : VK), f x Qd Ed → (∀ d z F' H', Gr G.pl F H F' H' → KOk G H F' H' k d z → Qd d → Q z H') → r v H Q
def OpS (G : Gx) (k1 k2 k : Kd) (r : R2) (f : D → D → W D) : Prop :=
  ∀ (F H : Hp), Ex F (hid G.pl H) → PoolOk G.pl H → ∀ x y v u, KIn G F H k1 x v → KIn G F H k2 y u → ∀ (Qd : D → Prop) (Ed : Xn → Prop) (Q : VK), f x y Qd Ed → (∀ d z F' H', Gr G.pl F H F' H' → KOk G H F' H' k d z → Qd d → Q z H') → r v u H Q
theorem se_op {G : Gx} (hG : G.pl = C.pl) {k1 k2 k : Kd} {r : R2} {f : D → D → W D} (h1 : k1.isN = false) (h2 : k2.isN = false) (hs : OpS G k1 k2 k r f) {ta tb : TE} {wa wb : Env → W D} (ha : SE G C M Wx k1 ta wa) (hb : SE G C M Wx k2 tb wb) :
    SE G C M Wx k (tOp r ta tb) (binW f wa wb) := by
  intro F H σ ρ s Qd Ed Q hw hq hx
  refine ha F H σ ρ s _ Ed _ hw (fun d v F1 H1 g1 i1 hw2 => ?_) hx
  refine hb F1 H1 σ ρ (s.gr g1) _ Ed _ hw2 (fun d2 v2 F2 H2 g2 i2 hw3 => ?_) fun x cls dd F2 H2 g2 => hx x cls dd F2 H2 (g1.trans g2)
  refine hs F2 H2 (by rw [hG]; exact g2.fh) (by rw [hG]; exact g2.pool) d d2 v v2 ((KIn.of h1 i1).gr (by rw [hG]; exact g2)) (KIn.of h2 i2) Qd Ed Q hw3 fun d3 z F3 H3 g3 k3 q => ?_
  rw [hG] at g3
  exact hq d3 z F3 H3 ((g1.trans g2).trans g3) (k3.gr fun a ha => (g1.trans g2).back g2.pool a ha) q
theorem de_bin {op : Operator} {r : R2} {f : D → D → W D} {k1 k2 k : Kd} {a b : Expr} {wa wb : Env → W D} (ho : OpR X (binaryOp op) r) (hs : OpS (gx X C) k1 k2 k r f) (ha : DE X C M Wx k1 a wa) (hb : DE X C M Wx k2 b wb) (h1 : k1.isN = false := by rfl) (h2 : k2.isN = false := by rfl) :
    DE X C M Wx k (.BinOp a op b pos) (binW f wa wb) := by
  obtain ⟨ta, pa, sa⟩ := ha.ex
  obtain ⟨tb, pb, sb⟩ := hb.ex
  exact ⟨_, pe_op ho pa pb, se_op rfl h1 h2 hs sa sb⟩
theorem de_cmp {op : CmpOp} {r : R2} {f : D → D → W D} {k1 k2 : Kd} {a b : Expr} {wa wb : Env → W D} (ho : OpR X (compareOp op) r) (hs : OpS (gx X C) k1 k2 .v r f) (hm : behindInMarks op b = false) (ha : DE X C M Wx k1 a wa) (hb : DE X C M Wx k2 b wb) (h1 : k1.isN = false := by rfl) (h2 : k2.isN = false := by rfl) :
    DE X C M Wx .v (.Compare a [op] [b] pos) (binW f wa wb) := by
  obtain ⟨ta, pa, sa⟩ := ha.ex
  obtain ⟨tb, pb, sb⟩ := hb.ex
  exact ⟨_, pe_cmpR ho pa pb hm, se_op rfl h1 h2 hs sa sb⟩
/-- a value as a test -/
theorem st_bl {G : Gx} {te : TE} {we : Env → W D} (h : SE G C M Wx .v te we) : ST G C M Wx (tTest te) (blW we) := by
  intro F H σ ρ s Qd Ed Q hw hq hx
  refine h F H σ ρ s _ Ed _ hw (fun d v F1 H1 g1 i1 hw2 => ?_) hx
  cases d with
  | bl b => exact ⟨b, i1, hq b F1 H1 g1 hw2⟩
  | _ => cases hw2
theorem dt_cmp {op : CmpOp} {r : R2} {f : D → D → W D} {k1 k2 : Kd} {a b : Expr} {wa wb : Env → W D} (ho : OpR X (compareOp op) r) (hs : OpS (gx X C) k1 k2 .v r f) (hm : behindInMarks op b = false) (ha : DE X C M Wx k1 a wa) (hb : DE X C M Wx k2 b wb) (h1 : k1.isN = false := by rfl) (h2 : k2.isN = false := by rfl) :
    DT X C M Wx (.Compare a [op] [b] pos) (blW (binW f wa wb)) := by
  obtain ⟨ta, pa, sa⟩ := ha.ex
  obtain ⟨tb, pb, sb⟩ := hb.ex
  exact ⟨_, pt_cmpR ho pa pb hm, st_bl (se_op rfl h1 h2 hs sa sb)⟩
theorem dt_val {e : Expr} {we : Env → W D} (h : DE X C M Wx .v e we) (he : ∀ whole, isTrue e X.env whole = (do let v ← whole; standAt e.pos; holding [v] (truthy v)) := by intro _; rfl) : DT X C M Wx e (blW we) := by
  obtain ⟨te, p, s⟩ := h.ex
  exact ⟨_, pt_val p he, st_bl s⟩
theorem dt_tr {e : Expr} {we : Env → W D} (h : DE X C M Wx .v e we) (he : ∀ whole, isTrue e X.env whole = (do let v ← whole; standAt e.pos; holding [v] (truthy v)) := by intro _; rfl) : DT X C M Wx e (trW we) := by
  obtain ⟨te, p, s⟩ := h.ex
  refine ⟨_, pt_truth p he, fun F H σ ρ r Qd Ed Q hw hq hx => ?_⟩
  refine s F H σ ρ r _ Ed _ hw (fun d v F1 H1 g1 i1 hw2 => ?_) hx
  cases d with
  | bl b => exact ⟨b, by rw [show v = .bl b from i1]; exact rfl, hq b F1 H1 g1 hw2⟩
  | int i => exact ⟨i != 0, by rw [show v = .int i from i1]; exact rfl, hq _ F1 H1 g1 hw2⟩
  | non => exact ⟨false, by rw [show v = .non from i1]; exact rfl, hq _ F1 H1 g1 hw2⟩
  | _ => cases hw2
theorem dt_not {e : Expr} {w : Env → W Bool} (h : DT X C M Wx e w) : DT X C M Wx (.UnaryOp .Not e pos) (notT w) := by
  obtain ⟨te, p, s⟩ := h.ex
  refine ⟨_, pt_not p, fun F H σ ρ r Qd Ed Q hw hq hx => ?_⟩
  exact s F H σ ρ r _ Ed _ hw (fun b F1 H1 g1 q => hq _ F1 H1 g1 q) hx
/-- and, or: PW -/
structure DW (X : Cx) (C : Cf) (M : List Md) (Wx : WX) (e : Expr) (w : Env → W Bool) : Prop where
  ex : ∃ te, PW X e te ∧ ST (gx X C) C M Wx te w
theorem DW.t {e : Expr} {w : Env → W Bool} (h : DW X C M Wx e w) : DT X C M Wx e w := by
  obtain ⟨te, p, s⟩ := h.ex
  exact ⟨te, p.pt, s⟩
theorem dw_and1 {a : Expr} {w : Env → W Bool} (h : DT X C M Wx a w) : DW X C M Wx (.BoolOp .And [a] pos) w := by
  obtain ⟨te, p, s⟩ := h.ex
  exact ⟨te, pw_and1 p, s⟩
theorem dw_or1 {a : Expr} {w : Env → W Bool} (h : DT X C M Wx a w) : DW X C M Wx (.BoolOp .Or [a] pos) w := by
  obtain ⟨te, p, s⟩ := h.ex
  exact ⟨te, pw_or1 p, s⟩
theorem st_and {G : Gx} {t u : TT} {wa wb : Env → W Bool} (ha : ST G C M Wx t wa) (hb : ST G C M Wx u wb) : ST G C M Wx (tAnd t u) (andT wa wb) := by
  intro F H σ ρ s Qd Ed Q hw hq hx
  refine ha F H σ ρ s _ Ed _ hw (fun b F1 H1 g1 hw2 => ?_) hx
  cases b with
  | true => exact hb F1 H1 σ ρ (s.gr g1) _ Ed _ hw2 (fun b F2 H2 g2 q => hq b F2 H2 (g1.trans g2) q) fun x cls dd F2 H2 g2 => hx x cls dd F2 H2 (g1.trans g2)
  | false => exact hq false F1 H1 g1 hw2
theorem st_or {G : Gx} {t u : TT} {wa wb : Env → W Bool} (ha : ST G C M Wx t wa) (hb : ST G C M Wx u wb) : ST G C M Wx (tOr t u) (orT wa wb) := by
  intro F H σ ρ s Qd Ed Q hw hq hx
  refine ha F H σ ρ s _ Ed _ hw (fun b F1 H1 g1 hw2 => ?_) hx
  cases b with
  | false => exact hb F1 H1 σ ρ (s.gr g1) _ Ed _ hw2 (fun b F2 H2 g2 q => hq b F2 H2 (g1.trans g2) q) fun x cls dd F2 H2 g2 => hx x cls dd F2 H2 (g1.trans g2)
  | true => exact hq true F1 H1 g1 hw2
theorem dw_and {a b : Expr} {rest : List Expr} {wa wb : Env → W Bool} (ha : DT X C M Wx a wa) (hb : DW X C M Wx (.BoolOp .And (b :: rest) pos) wb) : DW X C M Wx (.BoolOp .And (a :: b :: rest) pos) (andT wa wb) := by
  obtain ⟨ta, pa, sa⟩ := ha.ex
  obtain ⟨tb, pb, sb⟩ := hb.ex
  exact ⟨_, pw_and pa pb, st_and sa sb⟩
theorem dw_or {a b : Expr} {rest : List Expr} {wa wb : Env → W Bool} (ha : DT X C M Wx a wa) (hb : DW X C M Wx (.BoolOp .Or (b :: rest) pos) wb) : DW X C M Wx (.BoolOp .Or (a :: b :: rest) pos) (orT wa wb) := by
  obtain ⟨ta, pa, sa⟩ := ha.ex
  obtain ⟨tb, pb, sb⟩ := hb.ex
  exact ⟨_, pw_or pa pb, st_or sa sb⟩
/-- .. as values -/
theorem de_one {op} {a : Expr} {w : Env → W D} (h : DE X C M Wx .v a w) : DE X C M Wx .v (.BoolOp op [a] pos) w := by
  obtain ⟨te, p, s⟩ := h.ex
  exact ⟨te, pe_one p, s⟩
theorem de_and {a b : Expr} {rest : List Expr} {wa wb : Env → W D} (ha : DE X C M Wx .v a wa) (hb : DE X C M Wx .v (.BoolOp .And (b :: rest) pos) wb) : DE X C M Wx .v (.BoolOp .And (a :: b :: rest) pos) (andV wa wb) := by
  obtain ⟨ta, pa, sa⟩ := ha.ex
  obtain ⟨tb, pb, sb⟩ := hb.ex
  refine ⟨_, pe_and pa pb, fun F H σ ρ s Qd Ed Q hw hq hx => ?_⟩
  refine sa F H σ ρ s _ Ed _ hw (fun d v F1 H1 g1 i1 hw2 => ?_) hx
  cases d with
  | bl c =>
    refine ⟨c, i1, ?_⟩
    cases c with
    | true => exact sb F1 H1 σ ρ (s.gr g1) _ Ed _ hw2 (fun b z F2 H2 g2 k q => hq b z F2 H2 (g1.trans g2) k q) fun x cls dd F2 H2 g2 => hx x cls dd F2 H2 (g1.trans g2)
    | false => exact hq (.bl false) _ F1 H1 g1 rfl hw2
  | _ => cases hw2
theorem de_or {a b : Expr} {rest : List Expr} {wa wb : Env → W D} (ha : DE X C M Wx .v a wa) (hb : DE X C M Wx .v (.BoolOp .Or (b :: rest) pos) wb) : DE X C M Wx .v (.BoolOp .Or (a :: b :: rest) pos) (orV wa wb) := by
  obtain ⟨ta, pa, sa⟩ := ha.ex
  obtain ⟨tb, pb, sb⟩ := hb.ex
  refine ⟨_, pe_or pa pb, fun F H σ ρ s Qd Ed Q hw hq hx => ?_⟩
  refine sa F H σ ρ s _ Ed _ hw (fun d v F1 H1 g1 i1 hw2 => ?_) hx
  cases d with
  | bl c =>
    refine ⟨c, i1, ?_⟩
    cases c with
    | false => exact sb F1 H1 σ ρ (s.gr g1) _ Ed _ hw2 (fun b z F2 H2 g2 k q => hq b z F2 H2 (g1.trans g2) k q) fun x cls dd F2 H2 g2 => hx x cls dd F2 H2 (g1.trans g2)
    | true => exact hq (.bl true) _ F1 H1 g1 rfl hw2
  | _ => cases hw2
theorem de_not {a : Expr} {w : Env → W D} (h : DE X C M Wx .v a w) : DE X C M Wx .v (.UnaryOp .Not a pos) (notV w) := by
  obtain ⟨te, p, s⟩ := h.ex
  refine ⟨_, pe_not p, fun F H σ ρ r Qd Ed Q hw hq hx => ?_⟩
  refine s F H σ ρ r _ Ed _ hw (fun d v F1 H1 g1 i1 hw2 => ?_) hx
  cases d with
  | bl c => exact ⟨c, i1, hq (.bl (!c)) _ F1 H1 g1 rfl hw2⟩
  | _ => cases hw2
theorem de_ifExp {k : Kd} {c a b : Expr} {wc : Env → W Bool} {wa wb : Env → W D} (hc : DT X C M Wx c wc) (ha : DE X C M Wx k a wa) (hb : DE X C M Wx k b wb) : DE X C M Wx k (.IfExp c a b pos) (ifW wc wa wb) := by
  obtain ⟨tc, pc, sc⟩ := hc.ex
  obtain ⟨ta, pa, sa⟩ := ha.ex
  obtain ⟨tb, pb, sb⟩ := hb.ex
  refine ⟨_, pe_ifExp pc pa pb, fun F H σ ρ s Qd Ed Q hw hq hx => ?_⟩
  refine sc F H σ ρ s _ Ed _ hw (fun b F1 H1 g1 hw2 => ?_) hx
  cases b with
  | true => exact sa F1 H1 σ ρ (s.gr g1) _ Ed _ hw2 (fun b z F2 H2 g2 k q => hq b z F2 H2 (g1.trans g2) (k.gr fun a ha => g1.back g1.pool a ha) q) fun x cls dd F2 H2 g2 => hx x cls dd F2 H2 (g1.trans g2)
  | false => exact sb F1 H1 σ ρ (s.gr g1) _ Ed _ hw2 (fun b z F2 H2 g2 k q => hq b z F2 H2 (g1.trans g2) (k.gr fun a ha => g1.back g1.pool a ha) q) fun x cls dd F2 H2 g2 => hx x cls dd F2 H2 (g1.trans g2)
end
end DL

namespace DL
open PySem PySem.Spec PyProof.Rows L2

/-! ### statements -/
def nextW : Env → W Fl := fun ρ Q _ => Q (.next ρ)
def brkW : Env → W Fl := fun ρ Q _ => Q (.brk ρ)
def contW : Env → W Fl := fun ρ Q _ => Q (.cont ρ)
def seqW (s t : Env → W Fl) : Env → W Fl := fun ρ Q E => s ρ (fun f => match f with | .next ρ' => t ρ' Q E | .brk ρ' => Q (.brk ρ') | .cont ρ' => Q (.cont ρ') | .ret d => Q (.ret d)) E
def asgW (i : Nat) (we : Env → W D) : Env → W Fl := fun ρ Q E => we ρ (fun d => Q (.next (ρ.set i (some d)))) E
def exprW (we : Env → W D) : Env → W Fl := fun ρ Q E => we ρ (fun _ => Q (.next ρ)) E
def retW (we : Env → W D) : Env → W Fl := fun ρ Q E => we ρ (fun d => Q (.ret d)) E
def retNW : Env → W Fl := fun _ Q _ => Q (.ret .non)
def iteW (wt : Env → W Bool) (s t : Env → W Fl) : Env → W Fl := fun ρ Q E => wt ρ (fun b => if b = true then s ρ Q E else t ρ Q E) E
def noneW : Env → W Fl := fun _ _ _ => False
def forL (tg : D → Env → W Env) (body : Env → W Fl) : List D → Env → W Fl
  | [], ρ => fun Q _ => Q (.next ρ)
  | x :: xs, ρ => fun Q E => tg x ρ (fun ρ1 => body ρ1 (fun f => match f with | .next ρ2 => forL tg body xs ρ2 Q E | .cont ρ2 => forL tg body xs ρ2 Q E | .brk ρ2 => Q (.next ρ2) | .ret d => Q (.ret d)) E) E
def forW (wi : Env → W (List D)) (tg : D → Env → W Env) (body : Env → W Fl) : Env → W Fl := fun ρ Q E => wi ρ (fun ds => forL tg body ds ρ Q E) E
def whileN (wt : Env → W Bool) (body : Env → W Fl) : Nat → Env → W Fl
  | 0, _ => fun _ _ => False
  | n + 1, ρ => fun Q E => wt ρ (fun b => if b = true then body ρ (fun f => match f with | .next ρ2 => whileN wt body n ρ2 Q E | .cont ρ2 => whileN wt body n ρ2 Q E | .brk ρ2 => Q (.next ρ2) | .ret d => Q (.ret d)) E else Q (.next ρ)) E
def whileW (wt : Env → W Bool) (body : Env → W Fl) : Env → W Fl := fun ρ Q E => ∃ n, whileN wt body n ρ Q E
def runW (n : Nat) (body : Env → W Fl) : List D → W D := fun ds Q E => body (ds.map some ++ List.replicate (n - ds.length) none) (fun f => match f with | .ret d => Q d | .next _ => Q .non | .brk _ => False | .cont _ => False) E
/-- targets -/
def tName (i : Nat) : D → Env → W Env := fun d ρ Q _ => Q (ρ.set i (some d))
def tNil' : List D → Env → W Env := fun ds ρ Q _ => match ds with | [] => Q ρ | _ => False
def tCons' (t : D → Env → W Env) (u : List D → Env → W Env) : List D → Env → W Env := fun ds ρ Q E => match ds with | d :: r => t d ρ (fun ρ1 => u r ρ1 Q E) E | [] => False
def tTup' (t : List D → Env → W Env) : D → Env → W Env := fun d ρ Q E => match d with | .tup ds => t ds ρ Q E | _ => False

/-! ### states, changed -/
section
variable {G : Gx} {C : Cf} {M : List Md} {F H F' H' : Hp} {σ : L2.St} {ρ : Env}
theorem SR.setV (s : SR G C M F H σ ρ) {i : Nat} {d : D} {v : V} (hi : i < M.length) (h : Is G F d v) : SR G C (M.set i .v) F H (σ.set i (some v)) (ρ.set i (some d)) := by
  obtain ⟨fp, f, k⟩ := s.own
  refine ⟨s.base, by simp [s.ls], by simp [s.lr], fun j => if j = i then [] else fp j, ⟨fun j => ?_, fun j j' l hj hl => ?_, fun j l hl => ?_⟩, fun j d' e => ?_⟩
  · split
    · exact List.nodup_nil
    · exact f.nd j
  · split at hl
    · cases hl
    · split
      · simp
      · exact f.dj j j' l hj hl
  · split at hl
    · cases hl
    · exact f.out j l hl
  · by_cases hj : j = i
    · subst hj
      rw [List.getElem?_set_self (by rw [s.lr]; exact hi)] at e
      cases e
      exact ⟨.v, v, List.getElem?_set_self hi, List.getElem?_set_self (by rw [s.ls]; exact hi), h, by simp⟩
    · rw [List.getElem?_set_ne (Ne.symm hj)] at e
      obtain ⟨m, v', e1, e2, h1⟩ := k j d' e
      refine ⟨m, v', by rw [List.getElem?_set_ne (Ne.symm hj)]; exact e1, by rw [List.getElem?_set_ne (Ne.symm hj)]; exact e2, ?_⟩
      simp only [if_neg hj]
      exact h1
/-- what is new becomes owned -/
theorem SR.setO (s : SR G C M F H σ ρ) (g : Gr C.pl F H F' H') {i n : Nat} {d : D} {v : V} (hi : i < M.length) (h : KOk G H F' H' (.n n) d v) : SR G C (M.set i (.o n)) F' H' (σ.set i (some v)) (ρ.set i (some d)) := by
  obtain ⟨fp, f, k⟩ := s.own
  obtain ⟨fn, o, nd, fr⟩ := h
  have s' := s.gr g
  have f' := f.gr g
  have dis : ∀ j l, l ∈ fp j → l ∉ fn := fun j l hl hn => by
    obtain ⟨_, _, _, o, e, _⟩ := f.out j l hl
    rw [fr l hn] at e; cases e
  refine ⟨s'.base, by simp [s.ls], by simp [s.lr], fun j => if j = i then fn else fp j, ⟨fun j => ?_, fun j j' l hj hl => ?_, fun j l hl => ?_⟩, fun j d' e => ?_⟩
  · split
    · exact nd
    · exact f.nd j
  · by_cases h1 : j = i
    · rw [if_pos h1] at hl
      rw [if_neg (fun z => hj (h1.trans z.symm))]
      exact fun z => dis j' l z hl
    · rw [if_neg h1] at hl
      by_cases h2 : j' = i
      · rw [if_pos h2]; exact dis j l hl
      · rw [if_neg h2]; exact f.dj j j' l hj hl
  · by_cases h1 : j = i
    · rw [if_pos h1] at hl
      obtain ⟨q1, q2⟩ := OwnD.there d n v fn o l hl
      exact ⟨q1, s.base.old (fr l hl), (s.base.nofresh (fr l hl)).2, q2⟩
    · rw [if_neg h1] at hl
      exact f'.out j l hl
  · by_cases hj : j = i
    · subst hj
      rw [List.getElem?_set_self (by rw [s.lr]; exact hi)] at e
      cases e
      refine ⟨.o n, v, List.getElem?_set_self hi, List.getElem?_set_self (by rw [s.ls]; exact hi), ?_⟩
      simp only [if_pos rfl]
      exact o
    · rw [List.getElem?_set_ne (Ne.symm hj)] at e
      obtain ⟨m, v', e1, e2, h1⟩ := k j d' e
      refine ⟨m, v', by rw [List.getElem?_set_ne (Ne.symm hj)]; exact e1, by rw [List.getElem?_set_ne (Ne.symm hj)]; exact e2, ?_⟩
      simp only [if_neg hj]
      exact h1.gr g fun l hl => ⟨(f'.out j l hl).1, (f'.out j l hl).2.2.1⟩
/-- an owned slot is frozen -/
theorem SR.frz (s : SR G C M F H σ ρ) {i n : Nat} (hi : M[i]? = some (.o n)) : ∃ F', Ex F F' ∧ SR G C (M.set i .v) F' H σ ρ := by
  obtain ⟨fp, f, k⟩ := s.own
  have hF : ∀ l ∈ fp i, F l = none := fun l hl => (f.out i l hl).1
  have ff : Ex F (DL.frz F H (fp i)) := frz_ex hF
  have hlt : i < M.length := (List.getElem?_eq_some_iff.mp hi).1
  have keep : ∀ j, j ≠ i → ∀ l, l ∈ fp j → DL.frz F H (fp i) l = none := fun j hj l hl => by
    rw [frz_out (f.dj j i l hj hl)]
    exact (f.out j l hl).1
  refine ⟨DL.frz F H (fp i), ff, ⟨s.base.stay, s.base.ff.trans ff, frz_hid s.base.fh fun l hl => (f.out i l hl).2.2.1, fun a o e => ?_, s.base.pool⟩, by simp [s.ls], by simp [s.lr], fun j => if j = i then [] else fp j, ⟨fun j => ?_, fun j j' l hj hl => ?_, fun j l hl => ?_⟩, fun j d e => ?_⟩
  · by_cases ha : a ∈ fp i
    · exact .inr (.inl (f.out i a ha).2.1)
    · rw [frz_out ha] at e
      exact s.base.sep a o e
  · split
    · exact List.nodup_nil
    · exact f.nd j
  · split at hl
    · cases hl
    · split
      · simp
      · exact f.dj j j' l hj hl
  · split at hl
    · cases hl
    · exact ⟨keep j (by assumption) l hl, (f.out j l hl).2⟩
  · obtain ⟨m, v, e1, e2, h1⟩ := k j d e
    by_cases hj : j = i
    · subst hj
      rw [hi] at e1
      cases e1
      exact ⟨.v, v, List.getElem?_set_self hlt, e2, OwnD.freeze h1, if_pos rfl⟩
    · refine ⟨m, v, by rw [List.getElem?_set_ne (Ne.symm hj)]; exact e1, e2, ?_⟩
      simp only [if_neg hj]
      cases m with
      | v => exact ⟨h1.1.mono ff, h1.2⟩
      | b => exact h1
      | o n => exact OwnD.step ff d n v (fp j) (fun l hl => ⟨keep j hj l hl, fun _ e => e⟩) h1
      | p n u => exact ⟨h1.1, OwnD.step ff d n v (fp j) (fun l hl => ⟨keep j hj l hl, fun _ e => e⟩) h1.2⟩
/-- less is known -/
theorem SR.forget (s : SR G C M F H σ ρ) {σ' : L2.St} {ρ' : Env} (h1 : σ'.length = σ.length) (h2 : ρ'.length = ρ.length) (h : ∀ (i : Nat) d, ρ'[i]? = some (some d) → ρ[i]? = some (some d) ∧ σ'[i]? = σ[i]?) : SR G C M F H σ' ρ' := by
  obtain ⟨fp, f, k⟩ := s.own
  refine ⟨s.base, by rw [h1, s.ls], by rw [h2, s.lr], fp, f, fun i d e => ?_⟩
  obtain ⟨e1, e2⟩ := h i d e
  rw [e2]
  exact k i d e1
end
end DL

namespace DL
open PySem PySem.Spec PyProof.Rows L2

section
variable {X : Cx} {C : Cf} {Ml M M1 M2 M' : List Md} {rk : Kd} {Wx : WX} {pos : Pos}
theorem dss_nil : DSs X C Ml rk Wx M M [] nextW := ⟨_, pss_nil, fun F H σ ρ s Qd Ed D_ hw hn _ _ _ _ => hn σ ρ F H (Ex.refl F) s hw⟩
theorem ss_seq {G : Gx} {t u : TS} {w1 w2 : Env → W Fl} (h1 : SS G C Ml rk Wx M M1 t w1) (h2 : SS G C Ml rk Wx M1 M2 u w2) : SS G C Ml rk Wx M M2 (tSeq t u) (seqW w1 w2) := by
  intro F H σ ρ s Qd Ed D_ hw hn hb hc hr hx
  refine h1 F H σ ρ s _ Ed { D_ with nx := u D_ } hw (fun σ' ρ' F' H' e s' q => ?_) (fun σ' ρ' F' H' e s' q => hb σ' ρ' F' H' e s' q) (fun σ' ρ' F' H' e s' q => hc σ' ρ' F' H' e s' q) (fun d v F' H' e s' k q => hr d v F' H' e s' k q) hx
  exact h2 F' H' σ' ρ' s' Qd Ed D_ q (fun σ2 ρ2 F2 H2 e2 => hn σ2 ρ2 F2 H2 (e.trans e2)) (fun σ2 ρ2 F2 H2 e2 => hb σ2 ρ2 F2 H2 (e.trans e2)) (fun σ2 ρ2 F2 H2 e2 => hc σ2 ρ2 F2 H2 (e.trans e2))
    (fun d v F2 H2 e2 => hr d v F2 H2 (e.trans e2)) fun x cls dd σ2 F2 H2 e2 => hx x cls dd σ2 F2 H2 (e.trans e2)
theorem dss_cons {st : Stmt} {rest : List Stmt} {w1 w2 : Env → W Fl} (h1 : DS X C Ml rk Wx M M1 st w1) (h2 : DSs X C Ml rk Wx M1 M2 rest w2) : DSs X C Ml rk Wx M M2 (st :: rest) (seqW w1 w2) := by
  obtain ⟨t, p, s⟩ := h1.ex
  obtain ⟨u, q, r⟩ := h2.ex
  exact ⟨_, pss_cons p q, ss_seq s r⟩
theorem dss_one {st : Stmt} {w : Env → W Fl} (h1 : DS X C Ml rk Wx M M1 st w) : DSs X C Ml rk Wx M M1 [st] w := by
  obtain ⟨t, p, s⟩ := h1.ex
  exact ⟨_, pss_one p, s⟩
/-- behind a statement an owned slot is frozen -/
theorem ss_frz {G : Gx} {t : TS} {w : Env → W Fl} (i : Nat) (h : SS G C Ml rk Wx M M1 t w) {n : Nat} (hi : M1[i]? = some (.o n)) : SS G C Ml rk Wx M (M1.set i .v) t w := by
  intro F H σ ρ s Qd Ed D_ hw hn hb hc hr hx
  refine h F H σ ρ s Qd Ed D_ hw (fun σ' ρ' F' H' e s' q => ?_) hb hc hr hx
  obtain ⟨F2, e2, s2⟩ := s'.frz hi
  exact hn σ' ρ' F2 H' (e.trans e2) s2 q
theorem ds_frz {st : Stmt} {w : Env → W Fl} (i : Nat) (h : DS X C Ml rk Wx M M1 st w) {n : Nat} (hi : M1[i]? = some (.o n)) : DS X C Ml rk Wx M (M1.set i .v) st w := by
  obtain ⟨t, p, s⟩ := h.ex
  exact ⟨t, p, ss_frz i s hi⟩
theorem dss_frz {st : List Stmt} {w : Env → W Fl} (i : Nat) (h : DSs X C Ml rk Wx M M1 st w) {n : Nat} (hi : M1[i]? = some (.o n)) : DSs X C Ml rk Wx M (M1.set i .v) st w := by
  obtain ⟨t, p, s⟩ := h.ex
  exact ⟨t, p, ss_frz i s hi⟩
/-- a block that never goes on: its end's modes are any -/
theorem dss_pre {st : List Stmt} {w : Env → W Fl} (i : Nat) (h : DSs X C Ml rk Wx (M.set i .v) M1 st w) {n : Nat} (hi : M[i]? = some (.o n)) : DSs X C Ml rk Wx M M1 st w := by
  obtain ⟨t, p, s⟩ := h.ex
  refine ⟨t, p, fun F H σ ρ r Qd Ed D_ hw hn hb hc hr hx => ?_⟩
  obtain ⟨F2, e2, s2⟩ := r.frz hi
  exact s F2 H σ ρ s2 Qd Ed D_ hw (fun σ' ρ' F' H' e => hn σ' ρ' F' H' (e2.trans e)) (fun σ' ρ' F' H' e => hb σ' ρ' F' H' (e2.trans e)) (fun σ' ρ' F' H' e => hc σ' ρ' F' H' (e2.trans e)) (fun d v F' H' e => hr d v F' H' (e2.trans e)) fun x cls dd σ' F' H' e => hx x cls dd σ' F' H' (e2.trans e)
theorem ds_pass : DS X C Ml rk Wx M M (.Pass pos) nextW := ⟨_, ps_pass, fun F H σ ρ s Qd Ed D_ hw hn _ _ _ _ => hn σ ρ F H (Ex.refl F) s hw⟩
theorem ds_break : DS X C M rk Wx M M' (.Break pos) brkW := ⟨_, ps_break, fun F H σ ρ s Qd Ed D_ hw _ hb _ _ _ => hb σ ρ F H (Ex.refl F) s hw⟩
theorem ds_cont : DS X C M rk Wx M M' (.Continue pos) contW := ⟨_, ps_continue, fun F H σ ρ s Qd Ed D_ hw _ _ hc _ _ => hc σ ρ F H (Ex.refl F) s hw⟩
theorem ds_never {st : Stmt} : DS X C Ml rk Wx M M' st noneW := ⟨_, ps_never, fun F H σ ρ s Qd Ed D_ hw _ _ _ _ _ => hw.elim⟩
/-- an error out of an expression at a statement -/
theorem ds_expr {e : Expr} {k : Kd} {we : Env → W D} (h : DE X C M Wx k e we) (hs : swapsWith e none pos.line X.env = pure false := by rfl) : DS X C Ml rk Wx M M (.Expr e pos) (exprW we) := by
  obtain ⟨te, p, s⟩ := h.ex
  refine ⟨_, ps_expr p hs, fun F H σ ρ r Qd Ed D_ hw hn _ _ _ hx => ?_⟩
  exact s F H σ ρ r _ Ed _ hw (fun d v F' H' g _ q => hn σ ρ F' H' g.ff (r.gr g) q) fun x cls dd F' H' g i q => hx x cls dd σ F' H' g.ff (r.base.gr g) i q
theorem ds_ret {e : Expr} {we : Env → W D} (h : DE X C M Wx rk e we) : DS X C Ml rk Wx M M' (.Return (some e) pos) (retW we) := by
  obtain ⟨te, p, s⟩ := h.ex
  refine ⟨_, ps_ret p, fun F H σ ρ r Qd Ed D_ hw _ _ _ hr hx => ?_⟩
  exact s F H σ ρ r _ Ed _ hw (fun d v F' H' g k q => hr d v F' H' g.ff (r.base.gr g) (k.gr fun a ha => r.base.old ha) q) fun x cls dd F' H' g i q => hx x cls dd σ F' H' g.ff (r.base.gr g) i q
theorem ds_retN (hk : rk = .v) : DS X C Ml rk Wx M M' (.Return none pos) retNW := by
  subst hk
  exact ⟨_, ps_retN, fun F H σ ρ r Qd Ed D_ hw _ _ _ hr _ => hr .non .non F H (Ex.refl F) r.base rfl hw⟩
/-- return of an owned name: it is handed on -/
theorem ds_retO {i : Nat} {x : Str} {p2 : Pos} {n : Nat} (hM : M[i]? = some (.o n)) (hN : X.N[i]? = some x) (hv : Vis X.env.scope x) (hd : (x == ("__debug__" : Str)) = false := by decide) (hcd : (x == ("__classdict__" : Str)) = false := by decide) :
    DS X C Ml (.n n) Wx M M' (.Return (some (.Name x p2)) pos) (retW (varW i)) := by
  refine ⟨_, ps_ret (pe_var hN hv hd hcd), fun F H σ ρ r Qd Ed D_ hw _ _ _ hr _ => ?_⟩
  obtain ⟨d, e, q⟩ := varW_some hw
  obtain ⟨fp, f, k⟩ := r.own
  obtain ⟨m, v, e1, e2, h1⟩ := k i d e
  rw [hM] at e1; cases e1
  exact ⟨v, e2, hr d v F H (Ex.refl F) r.base ⟨fp i, h1, f.nd i, fun l hl => (f.out i l hl).2.1⟩ q⟩
/-- x = e: what comes is frozen -/
theorem ds_set {i : Nat} {x : Str} {e : Expr} {we : Env → W D} {p2 : Pos} (hN : X.N.Nodup) (hi : X.N[i]? = some x) (hx : Loc X.env.scope x) (h : DE X C M Wx .v e we) (hlt : i < M.length) (hs : swapsWith e (some (.Name x p2)) pos.line X.env = pure false := by rfl)
    (hf : X.fn x = true ∨ X.env.scope.names.lookup x = some .local := by first | exact .inl rfl | exact .inr rfl | assumption) : DS X C Ml rk Wx M (M.set i .v) (.Assign [.Name x p2] e pos) (asgW i we) := by
  obtain ⟨te, p, s⟩ := h.ex
  refine ⟨_, ps_set hN hi hx p hs hf, fun F H σ ρ r Qd Ed D_ hw hn _ _ _ hx => ?_⟩
  exact s F H σ ρ r _ Ed _ hw (fun d v F' H' g k q => hn _ _ F' H' g.ff ((r.gr g).setV hlt k) q) fun x cls dd F' H' g i q => hx x cls dd σ F' H' g.ff (r.base.gr g) i q
/-- x = e: what comes is new and owned -/
theorem ds_setO {i n : Nat} {x : Str} {e : Expr} {we : Env → W D} {p2 : Pos} (hN : X.N.Nodup) (hi : X.N[i]? = some x) (hx : Loc X.env.scope x) (h : DE X C M Wx (.n n) e we) (hlt : i < M.length) (hs : swapsWith e (some (.Name x p2)) pos.line X.env = pure false := by rfl)
    (hf : X.fn x = true ∨ X.env.scope.names.lookup x = some .local := by first | exact .inl rfl | exact .inr rfl | assumption) : DS X C Ml rk Wx M (M.set i (.o n)) (.Assign [.Name x p2] e pos) (asgW i we) := by
  obtain ⟨te, p, s⟩ := h.ex
  refine ⟨_, ps_set hN hi hx p hs hf, fun F H σ ρ r Qd Ed D_ hw hn _ _ _ hx => ?_⟩
  exact s F H σ ρ r _ Ed _ hw (fun d v F' H' g k q => hn _ _ F' H' g.ff (r.setO g hlt k) q) fun x cls dd F' H' g i q => hx x cls dd σ F' H' g.ff (r.base.gr g) i q
theorem ss_if {G : Gx} {c : TT} {t u : TS} {wc : Env → W Bool} {w1 w2 : Env → W Fl} (hc : ST G C M Wx c wc) (h1 : SS G C Ml rk Wx M M1 t w1) (h2 : SS G C Ml rk Wx M M1 u w2) : SS G C Ml rk Wx M M1 (tIfS c t u) (iteW wc w1 w2) := by
  intro F H σ ρ s Qd Ed D_ hw hn hb hcn hr hx
  refine hc F H σ ρ s _ Ed _ hw (fun b F' H' g q => ?_) fun x cls dd F' H' g i q => hx x cls dd σ F' H' g.ff (s.base.gr g) i q
  cases b with
  | true => exact h1 F' H' σ ρ (s.gr g) Qd Ed D_ q (fun σ2 ρ2 F2 H2 e2 => hn σ2 ρ2 F2 H2 (g.ff.trans e2)) (fun σ2 ρ2 F2 H2 e2 => hb σ2 ρ2 F2 H2 (g.ff.trans e2)) (fun σ2 ρ2 F2 H2 e2 => hcn σ2 ρ2 F2 H2 (g.ff.trans e2)) (fun d v F2 H2 e2 => hr d v F2 H2 (g.ff.trans e2)) fun x cls dd σ2 F2 H2 e2 => hx x cls dd σ2 F2 H2 (g.ff.trans e2)
  | false => exact h2 F' H' σ ρ (s.gr g) Qd Ed D_ q (fun σ2 ρ2 F2 H2 e2 => hn σ2 ρ2 F2 H2 (g.ff.trans e2)) (fun σ2 ρ2 F2 H2 e2 => hb σ2 ρ2 F2 H2 (g.ff.trans e2)) (fun σ2 ρ2 F2 H2 e2 => hcn σ2 ρ2 F2 H2 (g.ff.trans e2)) (fun d v F2 H2 e2 => hr d v F2 H2 (g.ff.trans e2)) fun x cls dd σ2 F2 H2 e2 => hx x cls dd σ2 F2 H2 (g.ff.trans e2)
theorem ds_if {c : Expr} {a b : List Stmt} {wc : Env → W Bool} {w1 w2 : Env → W Fl} (hc : DT X C M Wx c wc) (ha : DSs X C Ml rk Wx M M1 a w1) (hb : DSs X C Ml rk Wx M M1 b w2) : DS X C Ml rk Wx M M1 (.If c a b pos) (iteW wc w1 w2) := by
  obtain ⟨tc, pc, sc⟩ := hc.ex
  obtain ⟨ta, pa, sa⟩ := ha.ex
  obtain ⟨tb, pb, sb⟩ := hb.ex
  exact ⟨_, ps_if pc pa pb, ss_if sc sa sb⟩

/-! ### while -/
theorem ss_while {G : Gx} {c : TT} {t : TS} {wc : Env → W Bool} {w : Env → W Fl} (hc : ST G C M Wx c wc) (h1 : SS G C M rk Wx M M t w) : SS G C Ml rk Wx M M (tWhile c t) (whileW wc w) := by
  intro F H σ ρ s Qd Ed D_ hw hn hb hcn hr hx
  obtain ⟨n, hw⟩ := hw
  refine ⟨fun m σ' H' => ∃ F' ρ', Ex F F' ∧ SR G C M F' H' σ' ρ' ∧ whileN wc w m ρ' Qd Ed, ⟨n, F, ρ, Ex.refl F, s, hw⟩, ?_⟩
  rintro m σ1 H1 ⟨F1, ρ1, e1, s1, hw1⟩
  cases m with
  | zero => exact hw1.elim
  | succ m =>
    refine hc F1 H1 σ1 ρ1 s1 _ Ed _ hw1 (fun b F2 H2 g q => ?_) fun x cls dd F' H' g i q => hx x cls dd σ1 F' H' (e1.trans g.ff) (s1.base.gr g) i q
    have e2 := e1.trans g.ff
    cases b with
    | false =>
      rw [if_neg Bool.false_ne_true] at q ⊢
      exact hn σ1 ρ1 F2 H2 e2 (s1.gr g) q
    | true =>
      rw [if_pos rfl] at q ⊢
      refine ⟨fun σ' H' => ∃ F' ρ', Ex F F' ∧ SR G C M F' H' σ' ρ' ∧ whileN wc w m ρ' Qd Ed, fun σ' H' h => ⟨m, Nat.lt_succ_self m, h⟩, ?_⟩
      refine h1 F2 H2 σ1 ρ1 (s1.gr g) _ Ed _ q (fun σ3 ρ3 F3 H3 e3 s3 q3 => ⟨F3, ρ3, e2.trans e3, s3, q3⟩) (fun σ3 ρ3 F3 H3 e3 s3 q3 => hn σ3 ρ3 F3 H3 (e2.trans e3) s3 q3) (fun σ3 ρ3 F3 H3 e3 s3 q3 => ⟨F3, ρ3, e2.trans e3, s3, q3⟩)
        (fun d v F3 H3 e3 s3 k q3 => hr d v F3 H3 (e2.trans e3) s3 k q3) fun x cls dd σ3 F3 H3 e3 s3 i q3 => hx x cls dd σ3 F3 H3 (e2.trans e3) s3 i q3
theorem ds_while {c : Expr} {body : List Stmt} {wc : Env → W Bool} {w : Env → W Fl} (hp : PassesOwn (model X.prog X.w) X.A X.env X.xe) (hc : DT X C M Wx c wc) (hb : DSs X C M rk Wx M M body w) : DS X C Ml rk Wx M M (.While c body [] pos) (whileW wc w) := by
  obtain ⟨tc, pc, sc⟩ := hc.ex
  obtain ⟨tb, pb, sb⟩ := hb.ex
  exact ⟨_, ps_while hp pc pb, ss_while sc sb⟩

/-! ### for -/
/-- J walks ds while F (of kind .r: the heap that can be read) stays -/
def Src (G : Gx) (k : Kd) (F H : Hp) (J : It) (ds : List D) : Prop :=
  ∀ F1 H1, Ex F F1 → (k = .r → Ex (hid G.pl H) H1) → Ex F1 (hid G.pl H1) → PoolOk G.pl H1 → J.stop ds.length H1 ∧ ∀ (i : Nat) d, ds[i]? = some d → J.go i H1 ∧ ∀ x H2, J.yld i H1 x H2 → ∃ F2, Gr G.pl F1 H1 F2 H2 ∧ Is G F2 d x
theorem Src.r_of_v {G : Gx} {F H : Hp} {J : It} {ds : List D} (h : Src G .v F H J ds) : Src G .r F H J ds := fun F1 H1 e _ => h F1 H1 e fun z => by cases z
/-- lists and tuples have at most so many items -/
def HSz (H : Hp) : Prop := ∀ a xs, H a = some (.lst xs) ∨ H a = some (.tup xs) → xs.length ≤ sizeLine
theorem HSz.of {P : Program} {w : World} {H : Hp} {h : Heap} (x : HOk P w H h) : HSz H := fun a xs e => by
  rcases e with e | e
  · exact (x a _ e).1
  · exact (x a _ e).1
theorem pi_sz {X : Cx} {tg iter : Expr} {ti : TI} (h : PI X tg iter ti) : PI X tg iter (fun σ H R => ti σ H (fun J H' => HSz H' → R J H')) := by
  refine ⟨fun pins s σ H R I hw => ?_⟩
  refine thn (h.run pins s σ H _ I hw) fun v s1 h1 => thn h1 fun itv s2 h2 => ?_
  obtain ⟨it, fp, tn, J, H', e, I2, T, st, f, q⟩ := h2
  exact ⟨it, fp, tn, J, H', e, I2, T, st, f, q (.of I2.hok)⟩
theorem pe_sz {X : Cx} {e : Expr} {te : TE} (h : PE X e te) : PE X e (fun σ H Q => HSz H → te σ H Q) :=
  ⟨fun pins s σ H Q I hw => h.run pins s σ H Q I (hw (.of I.hok))⟩
def SI (G : Gx) (C : Cf) (M : List Md) (Wx : WX) (k : Kd) (ti : TI) (w : Env → W (List D)) : Prop :=
  ∀ (F H : Hp) (σ : L2.St) (ρ : Env), SR G C M F H σ ρ → ∀ (Qd : List D → Prop) (Ed : Xn → Prop) (R : It → Hp → Prop), w ρ Qd Ed →
    (∀ ds F' H' J, Gr C.pl F H F' H' → Src G k F' H' J ds → (HSz H' → ds.length ≤ sizeLine) → Qd ds → R J H') →
    (∀ x cls dd F' H', Gr C.pl F H F' H' → IsX G F' H' x cls dd → Ed x → Wx cls dd σ H') → ti σ H R
structure DI (X : Cx) (C : Cf) (M : List Md) (Wx : WX) (k : Kd) (tg iter : Expr) (w : Env → W (List D)) : Prop where
  ex : ∃ ti, PI X tg iter ti ∧ SI (gx X C) C M Wx k ti w
/-- a target: it stores at the places is -/
def SG (G : Gx) (C : Cf) (M : List Md) (is : List Nat) (g : TG) (t : D → Env → W Env) : Prop :=
  ∀ (F H : Hp) (σ : L2.St) (ρ : Env), SR G C M F H σ ρ → ∀ d v, Is G F d v → ∀ (Qe : Env → Prop) (Ed : Xn → Prop) (Q : L2.St → Hp → Prop), t d ρ Qe Ed →
    (∀ σ' ρ', SR G C M F H σ' ρ' → σ'.length = σ.length → (∀ j, j ∉ is → σ'[j]? = σ[j]?) → Qe ρ' → Q σ' H) → g v σ H Q
structure DG (X : Cx) (C : Cf) (M : List Md) (is : List Nat) (tg : Expr) (t : D → Env → W Env) : Prop where
  ex : ∃ g, PG X tg g ∧ SG (gx X C) C M is g t
def SGs (G : Gx) (C : Cf) (M : List Md) (is : List Nat) (g : TGs) (t : List D → Env → W Env) : Prop :=
  ∀ (F H : Hp) (σ : L2.St) (ρ : Env), SR G C M F H σ ρ → ∀ ds vs, IsL G F ds vs → ∀ (Qe : Env → Prop) (Ed : Xn → Prop) (Q : L2.St → Hp → Prop), t ds ρ Qe Ed →
    (∀ σ' ρ', SR G C M F H σ' ρ' → σ'.length = σ.length → (∀ j, j ∉ is → σ'[j]? = σ[j]?) → Qe ρ' → Q σ' H) → g vs σ H Q
structure DGs (X : Cx) (C : Cf) (M : List Md) (is : List Nat) (tgs : List Expr) (t : List D → Env → W Env) : Prop where
  ex : ∃ g, PGs X tgs g ∧ SGs (gx X C) C M is g t
theorem set_v {i : Nat} (h : M[i]? = some .v) : M.set i .v = M := by
  obtain ⟨h1, h2⟩ := List.getElem?_eq_some_iff.mp h
  rw [← h2]
  exact List.set_getElem_self h1
theorem dg_name {i : Nat} {x : Str} (hN : X.N.Nodup) (hi : X.N[i]? = some x) (hx : Loc X.env.scope x) (hM : M[i]? = some .v) (hf : X.fn x = true ∨ X.env.scope.names.lookup x = some .local := by first | exact .inl rfl | exact .inr rfl | assumption) : DG X C M [i] (.Name x pos) (tName i) := by
  refine ⟨_, pg_name hN hi hx hf, fun F H σ ρ s d v h Qe Ed Q ht q => ?_⟩
  have h2 := s.setV (List.getElem?_eq_some_iff.mp hM).1 h
  rw [set_v hM] at h2
  exact q _ _ h2 (by simp) (fun j hj => List.getElem?_set_ne (fun e => hj (by simp [e]))) ht
theorem dgs_nil : DGs X C M [] [] tNil' := by
  refine ⟨_, pgs_nil, fun F H σ ρ s ds vs h Qe Ed Q ht q => ?_⟩
  cases ds with
  | nil => exact ⟨h, q σ ρ s rfl (fun _ _ => rfl) ht⟩
  | cons => cases ht
theorem dgs_cons {is js : List Nat} {e : Expr} {es : List Expr} {t : D → Env → W Env} {u : List D → Env → W Env} (h1 : DG X C M is e t) (h2 : DGs X C M js es u) (hs : (assignEach (e :: es) X.env).map (·.2) = assign e X.env :: (assignEach es X.env).map (·.2) := by rfl) :
    DGs X C M (is ++ js) (e :: es) (tCons' t u) := by
  obtain ⟨g, p, s1⟩ := h1.ex
  obtain ⟨gs, ps, s2⟩ := h2.ex
  refine ⟨_, pgs_cons p ps hs, fun F H σ ρ s ds vs h Qe Ed Q ht q => ?_⟩
  cases ds with
  | nil => cases ht
  | cons d ds =>
    obtain ⟨v, r, e, i1, i2⟩ := h
    refine ⟨v, r, e, ?_⟩
    refine s1 F H σ ρ s d v i1 _ Ed _ ht fun σ1 ρ1 s1' l1 k1 q1 => ?_
    refine s2 F H σ1 ρ1 s1' ds r i2 _ Ed _ q1 fun σ2 ρ2 s2' l2 k2 q2 => ?_
    refine q σ2 ρ2 s2' (l2.trans l1) (fun j hj => ?_) q2
    simp only [List.mem_append, not_or] at hj
    rw [k2 j hj.2, k1 j hj.1]
theorem dg_tup {is : List Nat} {es : List Expr} {k : Nat} {t : List D → Env → W Env} (hc : X.calm = true) (h : DGs X C M is es t) (hn : ∀ ds ρ Q E, t ds ρ Q E → ds.length = (assignEach es X.env).length) (hst : (assignEach es X.env).findIdx? (·.1) = none := by rfl) :
    DG X C M is (.Tuple es k pos) (tTup' t) := by
  obtain ⟨g, p, s1⟩ := h.ex
  refine ⟨_, pg_tup hc p rfl hst, fun F H σ ρ s d v h Qe Ed Q ht q => ?_⟩
  cases d with
  | tup ds =>
    obtain ⟨a, vs, rfl, h1, h2⟩ := h
    have hl : ∀ (ds : List D) (vs : List V), IsL (gx X C) F ds vs → vs.length = ds.length := by
      intro ds
      induction ds with
      | nil => intro vs h; rw [show vs = [] from h]; rfl
      | cons d ds ih => intro vs h; obtain ⟨v, r, e, _, h2⟩ := h; rw [e]; simp [ih r h2]
    exact ⟨a, vs, rfl, (s.base.fh.trans hid_ex).st h1.sq, (hl ds vs h2).trans (hn ds ρ _ _ ht), s1 F H σ ρ s ds vs h2 Qe Ed Q ht q⟩
  | _ => cases ht
theorem ss_for {G : Gx} (hG : G.pl = C.pl) {is : List Nat} {ti : TI} {g : TG} {t : TS} {wi : Env → W (List D)} {tg : D → Env → W Env} {w : Env → W Fl} (hi : SI G C M Wx .v ti wi) (hg : SG G C M is g tg) (h1 : SS G C M rk Wx M M t w)
    (htg : ∀ d ρ Q E E', tg d ρ Q E → tg d ρ Q E') : SS G C Ml rk Wx M M (tFor ti g t) (forW wi tg w) := by
  intro F H σ ρ s Qd Ed D_ hw hn hb hcn hr hx
  refine hi F H σ ρ s _ Ed _ hw (fun ds F1 H1 J g1 src _ q => ?_) fun x cls dd F' H' g i q => hx x cls dd σ F' H' g.ff (s.base.gr g) i q
  refine ⟨fun i m σ' H' => m = ds.length - i ∧ i ≤ ds.length ∧ ∃ F' ρ', Ex F1 F' ∧ SR G C M F' H' σ' ρ' ∧ forL tg w (ds.drop i) ρ' Qd Ed, ⟨_, rfl, Nat.zero_le _, F1, ρ, Ex.refl _, s.gr g1, q⟩, ?_⟩
  rintro i m σ2 H2 ⟨hm, hle, F2, ρ2, e2, s2, q2⟩
  obtain ⟨stop, step⟩ := src F2 H2 e2 (fun z => by cases z) (by rw [hG]; exact s2.base.fh) (by rw [hG]; exact s2.base.pool)
  by_cases hlt : i < ds.length
  · have hd : ds[i]? = some ds[i] := List.getElem?_eq_getElem hlt
    obtain ⟨go, yl⟩ := step i ds[i] hd
    rw [List.drop_eq_getElem_cons hlt] at q2
    refine .inr ⟨go, fun σ' H' => ∃ F' ρ', Ex F1 F' ∧ SR G C M F' H' σ' ρ' ∧ forL tg w (ds.drop (i + 1)) ρ' Qd Ed, fun σ' H' h => ⟨ds.length - (i + 1), by omega, rfl, hlt, h⟩, fun x H3 y => ?_⟩
    obtain ⟨F3, g3, is3⟩ := yl x H3 y
    rw [hG] at g3
    refine hg F3 H3 σ2 ρ2 (s2.gr g3) ds[i] x is3 _ Ed _ q2 fun σ4 ρ4 s4 _ _ q4 => ?_
    have e4 : Ex F1 F3 := e2.trans g3.ff
    refine h1 F3 H3 σ4 ρ4 s4 _ Ed _ q4 (fun σ5 ρ5 F5 H5 e5 s5 q5 => ⟨F5, ρ5, e4.trans e5, s5, q5⟩) (fun σ5 ρ5 F5 H5 e5 s5 q5 => hn σ5 ρ5 F5 H5 (g1.ff.trans (e4.trans e5)) s5 q5) (fun σ5 ρ5 F5 H5 e5 s5 q5 => ⟨F5, ρ5, e4.trans e5, s5, q5⟩)
      (fun d v F5 H5 e5 s5 k q5 => hr d v F5 H5 (g1.ff.trans (e4.trans e5)) s5 k q5) fun x cls dd σ5 F5 H5 e5 s5 ix q5 => hx x cls dd σ5 F5 H5 (g1.ff.trans (e4.trans e5)) s5 ix q5
  · have e : i = ds.length := by omega
    subst e
    rw [List.drop_length] at q2
    exact .inl ⟨stop, hn σ2 ρ2 F2 H2 (g1.ff.trans e2) s2 q2⟩
theorem ds_for {is : List Nat} {tgt iter : Expr} {body : List Stmt} {wi : Env → W (List D)} {tg : D → Env → W Env} {w : Env → W Fl} (hp : PassesOwn (model X.prog X.w) X.A X.env X.xe) (hc : X.calm = true) (hi : DI X C M Wx .v tgt iter wi) (hg : DG X C M is tgt tg) (hb : DSs X C M rk Wx M M body w)
    (htg : ∀ d ρ Q E E', tg d ρ Q E → tg d ρ Q E') (hs : ∀ x, foldedSetIterable iter X.env x = pure x := by intro _; rfl) : DS X C Ml rk Wx M M (.For tgt iter body [] pos) (forW wi tg w) := by
  obtain ⟨ti, p, si⟩ := hi.ex
  obtain ⟨g, pg, sg⟩ := hg.ex
  obtain ⟨tb, pb, sb⟩ := hb.ex
  exact ⟨_, ps_for hp hc p pg pb hs, ss_for rfl si sg sb htg⟩
end
end DL

namespace DL
open PySem PySem.Spec PyProof.Rows L2

/-! ### comprehensions -/
def wipeD (ρ : Env) : List Nat → Env
  | [] => ρ
  | v :: vs => (wipeD ρ vs).set v none
def compL (tg : D → Env → W Env) (wt : Env → W Bool) (we : Env → W D) (ρ0 : Env) : List D → W (List D)
  | [] => fun Q _ => Q []
  | x :: xs => fun Q E => tg x ρ0 (fun ρ1 => wt ρ1 (fun b => if b = true then we ρ1 (fun d => compL tg wt we ρ0 xs (fun ds => Q (d :: ds)) E) E else compL tg wt we ρ0 xs Q E) E) E
def noX : Xn → Prop := fun _ => False
def compW (vs : List Nat) (wi : Env → W (List D)) (tg : D → Env → W Env) (wt : Env → W Bool) (we : Env → W D) : Env → W D := fun ρ Q E => wi ρ (fun ds => compL tg wt we (wipeD ρ vs) ds (fun r => Q (.lst r)) noX) E
def yesW : Env → W Bool := fun _ Q _ => Q true
abbrev WX0 : WX := fun _ _ _ _ => False

theorem wipe_get {σ : L2.St} : ∀ (vs : List Nat) (i : Nat), (wipe σ vs)[i]? = if i ∈ vs ∧ i < σ.length then some none else σ[i]?
  | [], i => by simp [wipe]
  | v :: vs, i => by
    unfold wipe
    have ih := wipe_get (σ := σ) vs i
    by_cases h : v = i
    · subst h
      by_cases hl : v < σ.length
      · rw [List.getElem?_set_self (by rw [wipe_length]; exact hl), if_pos ⟨by simp, hl⟩]
      · rw [List.getElem?_eq_none (by rw [List.length_set, wipe_length]; omega), if_neg (fun z => hl z.2), List.getElem?_eq_none (by omega)]
    · rw [List.getElem?_set_ne h, ih]
      by_cases h2 : i ∈ vs ∧ i < σ.length
      · rw [if_pos h2, if_pos ⟨List.mem_cons_of_mem _ h2.1, h2.2⟩]
      · rw [if_neg h2, if_neg]
        rintro ⟨h3, h4⟩
        rcases List.mem_cons.mp h3 with e | h3
        · exact h e.symm
        · exact h2 ⟨h3, h4⟩
theorem wipeD_length (ρ : Env) : ∀ vs : List Nat, (wipeD ρ vs).length = ρ.length
  | [] => rfl
  | v :: vs => by unfold wipeD; rw [List.length_set, wipeD_length ρ vs]
theorem wipeD_get {ρ : Env} : ∀ (vs : List Nat) (i : Nat) (d : D), (wipeD ρ vs)[i]? = some (some d) → ρ[i]? = some (some d) ∧ i ∉ vs
  | [], i, d, h => ⟨h, by simp⟩
  | v :: vs, i, d, h => by
    unfold wipeD at h
    by_cases e : v = i
    · subst e
      by_cases hl : v < (wipeD ρ vs).length
      · rw [List.getElem?_set_self hl] at h; cases h
      · rw [List.getElem?_eq_none (by simp; omega)] at h; cases h
    · rw [List.getElem?_set_ne e] at h
      obtain ⟨h1, h2⟩ := wipeD_get vs i d h
      exact ⟨h1, by simp only [List.mem_cons, not_or]; exact ⟨fun z => e z.symm, h2⟩⟩
/-- assignments within are wiped away -/
theorem wipe_same {σ σ' : L2.St} {is vs : List Nat} (hl : σ'.length = σ.length) (h : ∀ j, j ∉ is → σ'[j]? = σ[j]?) (hs : ∀ i ∈ is, i ∈ vs) : wipe σ' vs = wipe σ vs := by
  apply List.ext_getElem?
  intro i
  rw [wipe_get, wipe_get, hl]
  by_cases hi : i ∈ vs ∧ i < σ.length
  · rw [if_pos hi, if_pos hi]
  · rw [if_neg hi, if_neg hi]
    by_cases hj : i ∈ is
    · have hv := hs i hj
      have : ¬ i < σ.length := fun z => hi ⟨hv, z⟩
      rw [List.getElem?_eq_none (by omega), List.getElem?_eq_none (by omega)]
    · exact h i hj
theorem SR.wiped {G : Gx} {C : Cf} {M : List Md} {F H : Hp} {σ : L2.St} {ρ : Env} (s : SR G C M F H σ ρ) (vs : List Nat) : SR G C M F H (wipe σ vs) (wipeD ρ vs) :=
  s.forget (wipe_length σ vs) (wipeD_length ρ vs) fun i d e => by
    obtain ⟨h1, h2⟩ := wipeD_get vs i d e
    exact ⟨h1, by rw [wipe_get, if_neg (fun z => h2 z.1)]⟩
theorem OwnL.app {G : Gx} {F H : Hp} {n : Nat} : ∀ {ds : List D} {vs : List V} {f1 : List Addr} {d : D} {v : V} {f2 : List Addr}, OwnL G F H ds n vs f1 → OwnD G F H d n v f2 → OwnL G F H (ds ++ [d]) n (vs ++ [v]) (f1 ++ f2)
  | [], _, _, d, v, f2, h, h2 => by
    obtain ⟨rfl, rfl⟩ := h
    exact ⟨v, [], f2, [], rfl, h2, ⟨rfl, rfl⟩, by simp⟩
  | d0 :: ds, _, _, d, v, f2, h, h2 => by
    obtain ⟨v0, r, g1, g2, rfl, h3, h4, rfl⟩ := h
    exact ⟨v0, r ++ [v], g1, g2 ++ f2, rfl, h3, OwnL.app h4 h2, by simp⟩
theorem OwnL.len {G : Gx} {F H : Hp} {n : Nat} : ∀ {ds : List D} {vs : List V} {f : List Addr}, OwnL G F H ds n vs f → vs.length = ds.length
  | [], _, _, h => by rw [h.1]; rfl
  | _ :: _, _, _, h => by obtain ⟨v, r, _, _, e, _, h2, _⟩ := h; rw [e]; simp [OwnL.len h2]
theorem IsL.len {G : Gx} {H : Hp} : ∀ {ds : List D} {vs : List V}, IsL G H ds vs → vs.length = ds.length
  | [], _, h => by rw [show _ = [] from h]; rfl
  | _ :: _, _, h => by obtain ⟨v, r, e, _, h2⟩ := h; rw [e]; simp [IsL.len h2]
theorem IsL.get {G : Gx} {H : Hp} : ∀ {ds : List D} {vs : List V} {i : Nat} {d : D}, IsL G H ds vs → ds[i]? = some d → ∃ v, vs[i]? = some v ∧ Is G H d v
  | [], _, _, _, _, e => by simp at e
  | d0 :: ds, _, 0, d, h, e => by
    obtain ⟨v, r, rfl, h1, _⟩ := h
    simp at e
    subst e
    exact ⟨v, rfl, h1⟩
  | d0 :: ds, _, i + 1, d, h, e => by
    obtain ⟨v, r, rfl, _, h2⟩ := h
    simpa using IsL.get h2 (by simpa using e)
theorem Gr.upd_new {pl : List Addr} {F H F' H' : Hp} {p : Addr} {o : HO} (g : Gr pl F H F' H') (hp : H p = none) (hq : PoolOk pl H) (hF : F' p = none) : Gr pl F H F' (upd H' p o) := by
  have hpl : p ∉ pl := fun z => by
    obtain ⟨_, e⟩ := hq.there z
    rw [hp] at e; cases e
  refine ⟨g.ff, fun a u e => ?_, fun a u e => ?_, g.sep, ?_⟩
  · have ne : a ≠ p := fun z => by subst z; rw [hF] at e; cases e
    obtain ⟨h1, h2⟩ := hid_some (g.fh a u e)
    rw [hid_out h1, upd_ne ne]
    exact h2
  · have ne : a ≠ p := fun z => by
      obtain ⟨_, h2⟩ := hid_some e
      subst z; rw [hp] at h2; cases h2
    rw [upd_ne ne]
    exact g.hh a u e
  · match pl, g.pool, hpl with
    | [], _, _ => trivial
    | [a, c], ⟨ne, s, n, xs, h1, h2⟩, hpl =>
      simp only [List.mem_cons, not_or] at hpl
      exact ⟨ne, s, n, xs, by rw [upd_ne (fun z => hpl.1 z.symm)]; exact h1, by rw [upd_ne (fun z => hpl.2.1 z.symm)]; exact h2⟩
def Kd.lvl : Kd → Nat
  | .n k => k
  | _ => 0
theorem KOk.own {G : Gx} {B F H : Hp} {k : Kd} (hk : k.isR = false) {d : D} {v : V} (h : KOk G B F H k d v) : ∃ fp, OwnD G F H d k.lvl v fp ∧ fp.Nodup ∧ ∀ l ∈ fp, B l = none := by
  cases k with
  | v => exact ⟨[], OwnD.of (show Is G F d v from h), List.nodup_nil, by simp⟩
  | r => cases hk
  | n k => exact h
section
variable {X : Cx} {C : Cf} {M : List Md} {Wx : WX} {pos : Pos}
theorem se_lc {G : Gx} (hG : G.pl = C.pl) {ki ke : Kd} (hk : ke.isR = false) {is vs : List Nat} {ti : TI} {g : TG} {tt : TT} {te : TE} {wi : Env → W (List D)} {tg : D → Env → W Env} {wt : Env → W Bool} {we : Env → W D}
    (hi : SI G C M Wx ki ti wi) (hg : SG G C M is g tg) (ht : ST G C M WX0 tt wt) (he : SE G C M WX0 ke te we) (his : ∀ i ∈ is, i ∈ vs) : SE G C M Wx (.n (ke.lvl + 1)) (tLc (fun σ H R => ti σ H (fun J H' => HSz H' → R J H')) g tt te vs) (compW vs wi tg wt we) := by
  intro F H σ ρ s Qd Ed Q hw hq hx
  refine hi F H σ ρ s _ Ed _ hw (fun ds F1 H1 J g1 src sz q => ?_) fun x cls dd F' H' g i q => hx x cls dd F' H' g i q
  intro hsz Dl hDl
  have s1 := s.gr g1
  obtain ⟨FDl, plDl⟩ := s1.base.nofresh hDl
  have pool1 := s1.base.pool
  -- the state at turn i
  refine ⟨fun i m H' => m = ds.length - i ∧ i ≤ ds.length ∧ ∃ F' done ws fp, Gr C.pl F1 H1 F' H' ∧ F' Dl = none ∧ H' Dl = some (.lst ws) ∧ OwnL G F' H' done ke.lvl ws fp ∧ fp.Nodup ∧ (∀ l ∈ fp, H1 l = none ∧ l ≠ Dl) ∧ done.length ≤ i ∧
    compL tg wt we (wipeD ρ vs) (ds.drop i) (fun r => Qd (.lst (done ++ r))) noX, ⟨_, rfl, Nat.zero_le _, F1, [], [], [], Gr.laid s1.base.fh pool1 hDl, FDl, upd_same, ⟨rfl, rfl⟩, List.nodup_nil, by simp, Nat.le_refl _, q⟩, ?_⟩
  rintro i m H2 ⟨hm, hle, F2, done, ws, fp, g2, f2, h2, o2, nd2, fr2, dl2, q2⟩
  obtain ⟨stop, step⟩ := src F2 H2 g2.ff (fun _ => by rw [hG]; exact g2.hh) (by rw [hG]; exact g2.fh) (by rw [hG]; exact g2.pool)
  by_cases hlt : i < ds.length
  · have hd : ds[i]? = some ds[i] := List.getElem?_eq_getElem hlt
    obtain ⟨go, yl⟩ := step i ds[i] hd
    rw [List.drop_eq_getElem_cons hlt] at q2
    refine .inr ⟨go, fun H' => ∃ F' done ws fp, Gr C.pl F1 H1 F' H' ∧ F' Dl = none ∧ H' Dl = some (.lst ws) ∧ OwnL G F' H' done ke.lvl ws fp ∧ fp.Nodup ∧ (∀ l ∈ fp, H1 l = none ∧ l ≠ Dl) ∧ done.length ≤ i + 1 ∧
      compL tg wt we (wipeD ρ vs) (ds.drop (i + 1)) (fun r => Qd (.lst (done ++ r))) noX, fun H' h => ⟨ds.length - (i + 1), by omega, rfl, hlt, h⟩, fun x H3 y => ?_⟩
    obtain ⟨F3, g3, is3⟩ := yl x H3 y
    rw [hG] at g3
    have hl : ∀ {F' H' : Hp}, Gr C.pl F2 H2 F' H' → F' Dl = none ∧ H' Dl = some (.lst ws) ∧ OwnL G F' H' done ke.lvl ws fp := fun {F' H'} g => by
      have hDH : H' Dl = some (.lst ws) := g.hh Dl _ (by rw [hid_out plDl]; exact h2)
      have out : ∀ l, H2 l ≠ none → F2 l = none → (∀ xs, H2 l ≠ some (.tup xs)) → l ∉ C.pl → F' l = none := fun l h0 hf ht hp => by
        cases e : F' l with
        | none => rfl
        | some u =>
          rcases g.sep l u e with z | z | ⟨xs, z⟩
          · rw [hf] at z; cases z
          · exact absurd z h0
          · cases e2 : H2 l with
            | none => exact absurd e2 h0
            | some u2 =>
              have h3 := g.hh l u2 (by rw [hid_out hp]; exact e2)
              have h4 := (hid_some (g.fh l u e)).2
              rw [h3] at h4
              cases h4
              exact absurd (by rw [e2, z]) (ht xs)
      refine ⟨out Dl (by rw [h2]; simp) f2 (fun xs z => by rw [h2] at z; cases z) plDl, hDH, OwnL.step g.ff done _ ws fp (fun l hl => ?_) o2⟩
      obtain ⟨q1, o, q3, q4⟩ := OwnL.there done _ ws fp o2 l hl
      have hpl : l ∉ C.pl := fun z => by
        obtain ⟨_, e⟩ := pool1.there z
        rw [(fr2 l hl).1] at e; cases e
      exact ⟨out l (by rw [q3]; simp) q1 (fun xs z => by rw [q3] at z; cases z; exact q4 xs rfl) hpl, fun o e => g.hh l o (by rw [hid_out hpl]; exact e)⟩
    have s2 := (s1.gr g2).wiped vs
    refine hg F3 H3 (wipe σ vs) (wipeD ρ vs) (s2.gr g3) ds[i] x is3 _ noX _ q2 fun σ4 ρ4 s4 l4 k4 q4 => ?_
    have hw4 : wipe σ4 vs = wipe σ vs := by
      have hww : wipe (wipe σ vs) vs = wipe σ vs := by
        apply List.ext_getElem?
        intro j
        rw [wipe_get, wipe_get, wipe_length]
        split <;> rfl
      rw [wipe_same l4 k4 his, hww]
    refine ⟨hw4, ?_⟩
    refine ht F3 H3 σ4 ρ4 s4 _ noX _ q4 (fun b F5 H5 g5 q5 => ?_) fun _ _ _ _ _ _ _ z => z.elim
    have g25 := g3.trans g5
    cases b with
    | false =>
      rw [if_neg Bool.false_ne_true] at q5 ⊢
      obtain ⟨h6, h7, h8⟩ := hl g25
      exact ⟨F5, done, ws, fp, g2.trans g25, h6, h7, h8, nd2, fr2, by omega, q5⟩
    | true =>
      rw [if_pos rfl] at q5 ⊢
      refine he F5 H5 σ4 ρ4 (s4.gr g5) _ noX _ q5 (fun d v F6 H6 g6 k6 q6 => ?_) fun _ _ _ _ _ _ _ z => z.elim
      obtain ⟨fn, on, ndn, frn⟩ := k6.own hk
      have g26 := g25.trans g6
      obtain ⟨h6, h7, h8⟩ := hl g26
      have nDl : Dl ∉ fn := fun z => by
        have := frn Dl z
        have h5 : H5 Dl = some (.lst ws) := (hl g25).2.1
        rw [h5] at this; cases this
      have nfp : ∀ l ∈ fp, l ∉ fn := fun l hl' z => by
        obtain ⟨_, o, e, _⟩ := OwnL.there done _ ws fp (hl g25).2.2 l hl'
        rw [frn l z] at e; cases e
      have hfn : ∀ l ∈ fn, H1 l = none := fun l hl' => (g2.trans g25).back g5.pool l (frn l hl')
      have keepD : ∀ {o : HO} (l : Addr), l ≠ Dl → ∀ u, H6 l = some u → upd H6 Dl o l = some u := fun l ne u e => by rw [upd_ne ne]; exact e
      refine ⟨ws, h7, ?_, F6, done ++ [d], ws ++ [v], fp ++ fn, ?_, h6, upd_same, ?_, ?_, ?_, by simp; omega, ?_⟩
      · have := OwnL.len o2
        have hz : ds.length ≤ sizeLine := sz hsz
        omega
      · exact (g2.trans g26).upd_new hDl pool1 h6
      · refine OwnL.app (OwnL.step (Ex.refl _) done _ ws fp (fun l hl' => ⟨(OwnL.there _ _ _ _ h8 l hl').1, keepD l (fr2 l hl').2⟩) h8) (OwnD.step (Ex.refl _) d _ v fn (fun l hl' => ⟨(OwnD.there _ _ _ _ on l hl').1, keepD l fun z => nDl (z ▸ hl')⟩) on)
      · exact List.nodup_append.mpr ⟨nd2, ndn, fun a ha b hb e => nfp a ha (e ▸ hb)⟩
      · intro l hl'
        rcases List.mem_append.mp hl' with z | z
        · exact fr2 l z
        · exact ⟨hfn l z, fun e => nDl (e ▸ z)⟩
      · have e : (fun r => Qd (.lst (done ++ [d] ++ r))) = fun r => Qd (.lst (done ++ (d :: r))) := by
          funext r
          rw [List.append_assoc]
          rfl
        rw [e]
        exact q6
  · have e : i = ds.length := by omega
    subst e
    rw [List.drop_length] at q2
    refine .inl ⟨stop, ?_⟩
    have q3 : Qd (.lst (done ++ [])) := q2
    rw [List.append_nil] at q3
    refine hq (.lst done) (.ref Dl) F2 H2 (g1.trans g2) ⟨Dl :: fp, ⟨Dl, ws, fp, rfl, f2, h2, o2, rfl⟩, List.nodup_cons.mpr ⟨fun z => (fr2 Dl z).2 rfl, nd2⟩, fun l hl => ?_⟩ q3
    rcases List.mem_cons.mp hl with rfl | hl
    · exact g1.back pool1 l hDl
    · exact g1.back pool1 l (fr2 l hl).1
/-! canonical readings -/
def teOf (G : Gx) (C : Cf) (M : List Md) (Wx : WX) (k : Kd) (w : Env → W D) : TE := fun σ H Q => ∃ F ρ, SR G C M F H σ ρ ∧ ∃ Qd Ed, w ρ Qd Ed ∧ (∀ d v F' H', Gr C.pl F H F' H' → KOk G H F' H' k d v → Qd d → Q v H') ∧
  (∀ x cls dd F' H', Gr C.pl F H F' H' → IsX G F' H' x cls dd → Ed x → Wx cls dd σ H')
def ttOf (G : Gx) (C : Cf) (M : List Md) (Wx : WX) (w : Env → W Bool) : TT := fun σ H Q => ∃ F ρ, SR G C M F H σ ρ ∧ ∃ Qd Ed, w ρ Qd Ed ∧ (∀ b F' H', Gr C.pl F H F' H' → Qd b → Q b H') ∧
  (∀ x cls dd F' H', Gr C.pl F H F' H' → IsX G F' H' x cls dd → Ed x → Wx cls dd σ H')
def gOf (G : Gx) (C : Cf) (M : List Md) (is : List Nat) (t : D → Env → W Env) : TG := fun v σ H Q => ∃ F ρ, SR G C M F H σ ρ ∧ ∃ d, Is G F d v ∧ ∃ Qe Ed, t d ρ Qe Ed ∧
  (∀ σ' ρ', SR G C M F H σ' ρ' → σ'.length = σ.length → (∀ j, j ∉ is → σ'[j]? = σ[j]?) → Qe ρ' → Q σ' H)
theorem DE.can {k : Kd} {e : Expr} {w : Env → W D} (h : DE X C M Wx k e w) : PE X e (teOf (gx X C) C M Wx k w) := by
  obtain ⟨te, p, s⟩ := h.ex
  refine ⟨fun pins st σ H Q I hw => ?_⟩
  obtain ⟨F, ρ, r, Qd, Ed, q, h1, h2⟩ := hw
  exact p.run pins st σ H Q I (s F H σ ρ r Qd Ed Q q h1 h2)
theorem DT.can {e : Expr} {w : Env → W Bool} (h : DT X C M Wx e w) : PT X e (ttOf (gx X C) C M Wx w) := by
  obtain ⟨te, p, s⟩ := h.ex
  refine ⟨fun pins st σ H Q I hw => ?_⟩
  obtain ⟨F, ρ, r, Qd, Ed, q, h1, h2⟩ := hw
  exact p.run pins st σ H Q I (s F H σ ρ r Qd Ed Q q h1 h2)
theorem DG.can {is : List Nat} {tg : Expr} {t : D → Env → W Env} (h : DG X C M is tg t) : PG X tg (gOf (gx X C) C M is t) := by
  obtain ⟨g, p, s⟩ := h.ex
  refine ⟨fun pins st σ H v u Q I rv hw => ?_⟩
  obtain ⟨F, ρ, r, d, hd, Qe, Ed, q, h1⟩ := hw
  exact p.run pins st σ H v u Q I rv (s F H σ ρ r d v hd Qe Ed Q q h1)
theorem se_can {G : Gx} {k : Kd} {w : Env → W D} : SE G C M Wx k (teOf G C M Wx k w) w := fun F H σ ρ s Qd Ed Q hw hq hx => ⟨F, ρ, s, Qd, Ed, hw, hq, hx⟩
theorem st_can {G : Gx} {w : Env → W Bool} : ST G C M Wx (ttOf G C M Wx w) w := fun F H σ ρ s Qd Ed Q hw hq hx => ⟨F, ρ, s, Qd, Ed, hw, hq, hx⟩
theorem sg_can {G : Gx} {is : List Nat} {t : D → Env → W Env} : SG G C M is (gOf G C M is t) t := fun F H σ ρ s d v hd Qe Ed Q ht q => ⟨F, ρ, s, d, hd, Qe, Ed, ht, q⟩
/-- the tests of a comprehension -/
structure DTs (X : Cx) (C : Cf) (M : List Md) (Wx : WX) (ifs : List Expr) (w : Env → W Bool) : Prop where
  can : PTs X ifs (ttOf (gx X C) C M Wx w)
theorem dts_nil : DTs X C M Wx [] yesW := ⟨⟨fun pins s σ H Q I hw => by
  obtain ⟨F, ρ, r, Qd, Ed, q, h1, h2⟩ := hw
  exact pts_nil.run pins s σ H Q I (h1 true F H (Gr.refl r.base.fh r.base.pool) q)⟩⟩
theorem dts_one {e : Expr} {w : Env → W Bool} (h : DT X C M Wx e w) : DTs X C M Wx [e] w := ⟨pts_one h.can⟩
theorem de_lc {ki ke : Kd} {is : List Nat} {elt tg iter : Expr} {ifs : List Expr} {scope : Scope} (own : List (Str × Nat)) {wi : Env → W (List D)} {t : D → Env → W Env} {wt : Env → W Bool} {we : Env → W D} (hc : X.calm = true) (hN : X.N.Nodup)
    (hi : DI X C M Wx ki tg iter wi) (ok : BlkOk X.N X.env.scope scope own) (hg : ∀ (s : Shared) (H : Hp) (Ca : Addr) (cl : List (Str × Addr)) (fp : List Addr), DG (X.blk s H scope (compEnvC scope cl Ca X.env) fp) C M is tg t)
    (ht : ∀ (s : Shared) (H : Hp) (Ca : Addr) (cl : List (Str × Addr)) (fp : List Addr), DTs (X.blk s H scope (compEnvC scope cl Ca X.env) fp) C M WX0 ifs wt)
    (he : ∀ (s : Shared) (H : Hp) (Ca : Addr) (cl : List (Str × Addr)) (fp : List Addr), DE (X.blk s H scope (compEnvC scope cl Ca X.env) fp) C M WX0 ke elt we)
    (his : ∀ i ∈ is, i ∈ own.map (·.2)) (hk : ke.isR = false := by rfl) (hs : ∀ x, foldedSetIterable iter X.env x = pure x := by intro _; rfl) :
    DE X C M Wx (.n (ke.lvl + 1)) (.ListComp elt [⟨tg, iter, ifs, 0⟩] scope pos) (compW (own.map (·.2)) wi t wt we) := by
  obtain ⟨ti, pi, si⟩ := hi.ex
  have s := se_lc (Wx := Wx) (G := gx X C) (vs := own.map (·.2)) (M := M) (tg := t) rfl hk si sg_can (st_can (w := wt)) (se_can (k := ke) (w := we)) his
  have p : PE X (.ListComp elt [⟨tg, iter, ifs, 0⟩] scope pos) _ := pe_lc (g := gOf (gx X C) C M is t) (tt := ttOf (gx X C) C M WX0 wt) (te := teOf (gx X C) C M WX0 ke we) hc hN (pi_sz pi) ok (fun s H Ca cl fp => (hg s H Ca cl fp).can) (fun s H Ca cl fp => (ht s H Ca cl fp).can) (fun s H Ca cl fp => (he s H Ca cl fp).can) hs
  exact ⟨_, p, s⟩
/-- x = [..]: stored within the block's frame; k: the kind at which it is kept -/
theorem ds_setLc {Ml : List Md} {rk : Kd} {ki ke : Kd} {is : List Nat} {i : Nat} {y : Str} {py spos : Pos} {elt tg iter : Expr} {ifs : List Expr} {scope : Scope} (own : List (Str × Nat)) {wi : Env → W (List D)} {t : D → Env → W Env} {wt : Env → W Bool} {we : Env → W D} (hc : X.calm = true) (hN : X.N.Nodup)
    (hy : X.N[i]? = some y) (hyl : X.env.scope.names.lookup y = some .local) (hsw : swapsWith (.ListComp elt [⟨tg, iter, ifs, 0⟩] scope pos) (some (.Name y py)) spos.line X.env = pure true)
    (hi : DI X C M Wx ki tg iter wi) (ok : BlkOk X.N X.env.scope scope own) (hg : ∀ (s : Shared) (H : Hp) (Ca : Addr) (cl : List (Str × Addr)) (fp : List Addr), DG (X.blk s H scope (compEnvC scope cl Ca X.env) fp) C M is tg t)
    (ht : ∀ (s : Shared) (H : Hp) (Ca : Addr) (cl : List (Str × Addr)) (fp : List Addr), DTs (X.blk s H scope (compEnvC scope cl Ca X.env) fp) C M WX0 ifs wt)
    (he : ∀ (s : Shared) (H : Hp) (Ca : Addr) (cl : List (Str × Addr)) (fp : List Addr), DE (X.blk s H scope (compEnvC scope cl Ca X.env) fp) C M WX0 ke elt we)
    (his : ∀ i ∈ is, i ∈ own.map (·.2)) (hlt : i < M.length) (hk : ke.isR = false := by rfl) (hs : ∀ x, foldedSetIterable iter X.env x = pure x := by intro _; rfl) :
    DS X C Ml rk Wx M (M.set i (.o (ke.lvl + 1))) (.Assign [.Name y py] (.ListComp elt [⟨tg, iter, ifs, 0⟩] scope pos) spos) (asgW i (compW (own.map (·.2)) wi t wt we)) := by
  obtain ⟨ti, pi, si⟩ := hi.ex
  have s := se_lc (Wx := Wx) (G := gx X C) (vs := own.map (·.2)) (M := M) (tg := t) rfl hk si sg_can (st_can (w := wt)) (se_can (k := ke) (w := we)) his
  refine ⟨_, ps_setLc (g := gOf (gx X C) C M is t) (tt := ttOf (gx X C) C M WX0 wt) (te := teOf (gx X C) C M WX0 ke we) hc hN hy hyl hsw (pi_sz pi) ok (fun s H Ca cl fp => (hg s H Ca cl fp).can) (fun s H Ca cl fp => (ht s H Ca cl fp).can) (fun s H Ca cl fp => (he s H Ca cl fp).can) hs, fun F H σ ρ r Qd Ed D_ hw hn _ _ _ hx => ?_⟩
  exact s F H σ ρ r _ Ed _ hw (fun d v F' H' g k q => hn _ _ F' H' g.ff (r.setO g hlt k) q) fun x cls dd F' H' g i q => hx x cls dd σ F' H' g.ff (r.base.gr g) i q
end
end DL

namespace DL
open PySem PySem.Spec PyProof.Rows L2

section
variable {X : Cx} {C : Cf} {M : List Md} {Wx : WX} {pos : Pos}
/-! ### arguments -/
def mdOf : Kd → Md
  | .v => .v | .r => .b | .n n => .o n
theorem ArgsOk.gr {G : Gx} {F H F' H' : Hp} (g : Gr G.pl F H F' H') : ∀ {ar : List Md} {ds : List D} {vs : List V}, ArgsOk G F H ar ds vs → ArgsOk G F' H' ar ds vs
  | _, _, _, .nil => .nil
  | _, _, _, .cons (m := m) h t => .cons (by cases m with
    | v => exact Is.mono g.ff _ _ h
    | b => exact Is.mono (hid_hid g.hh) _ _ h
    | o => exact h
    | p => exact h) (ArgsOk.gr g t)
theorem da_nil : DA X C M Wx [] [] nilW := ⟨_, pa_nil, fun F H σ ρ s Qd Ed Q hw hq _ => hq [] [] F H (Gr.refl s.base.fh s.base.pool) .nil hw⟩
theorem sa_cons {G : Gx} (hG : G.pl = C.pl) {k : Kd} (hk : k.isN = false) {te : TE} {ta : TA} {we : Env → W D} {wa : Env → W (List D)} {ar : List Md} (h1 : SE G C M Wx k te we) (h2 : SA G C M Wx ar ta wa) : SA G C M Wx (mdOf k :: ar) (L2.tCons te ta) (consW we wa) := by
  intro F H σ ρ s Qd Ed Q hw hq hx
  refine h1 F H σ ρ s _ Ed _ hw (fun d v F1 H1 g1 k1 q1 => ?_) hx
  refine h2 F1 H1 σ ρ (s.gr g1) _ Ed _ q1 (fun ds vs F2 H2 g2 a2 q2 => ?_) fun x cls dd F2 H2 g2 => hx x cls dd F2 H2 (g1.trans g2)
  refine hq (d :: ds) (v :: vs) F2 H2 (g1.trans g2) (.cons ?_ a2) q2
  cases k with
  | v => exact Is.mono g2.ff d v k1
  | r => show Is G (hid G.pl H2) d v; rw [hG]; rw [KOk, hG] at k1; exact Is.mono (hid_hid g2.hh) d v k1
  | n => cases hk
theorem da_cons {k : Kd} {e : Expr} {es : List Expr} {we : Env → W D} {wa : Env → W (List D)} {ar : List Md} (h1 : DE X C M Wx k e we) (h2 : DA X C M Wx ar es wa) (hk : k.isN = false := by rfl)
    (hs : starEach (e :: es) X.env = (false, eval e X.env) :: starEach es X.env := by rfl) : DA X C M Wx (mdOf k :: ar) (e :: es) (consW we wa) := by
  obtain ⟨te, p, s⟩ := h1.ex
  obtain ⟨ta, pa, sa⟩ := h2.ex
  exact ⟨_, pa_cons p pa hs, sa_cons rfl hk s sa⟩

/-! ### defs -/
def SpD (K : PySem.W.Frag) (mg : Str → Option Value) (ar : List Md) (rk : Kd) (w : List D → W D) : Sp := fun vs H Q E => ∃ (pl : List Addr) (F : Hp) (ds : List D), Ex F (hid pl H) ∧ PoolOk pl H ∧ ArgsOk ⟨K, mg, pl⟩ F H ar ds vs ∧ ∃ (Qd : D → Prop) (Ed : Xn → Prop), w ds Qd Ed ∧
  (∀ d v F' H', Gr pl F H F' H' → KOk ⟨K, mg, pl⟩ H F' H' rk d v → Qd d → Q v H') ∧ (∀ x cls dd F' H', Gr pl F H F' H' → IsX ⟨K, mg, pl⟩ F' H' x cls dd → Ed x → E cls dd H')
theorem ArgsOk.len {G : Gx} {F H : Hp} : ∀ {ar : List Md} {ds : List D} {vs : List V}, ArgsOk G F H ar ds vs → vs.length = ar.length ∧ ds.length = ar.length
  | _, _, _, .nil => ⟨rfl, rfl⟩
  | _, _, _, .cons _ t => by have := t.len; simp [this.1, this.2]
/-- a def of the module keeps its meaning -/
structure FnD (P : Program) (w : World) (K : PySem.W.Frag) (mg : Str → Option Value) (base : Heap) (x : Str) (k : Nat) (ar : List Md) (rk : Kd) (m : List D → W D) : Prop where
  ex : ∃ (f : Addr) (fd : FuncData) (ps : List Str), mg x = some (.ref f) ∧ PySem.W.keepIn K (.ref f) = true ∧ Binds K fd ps [] ∧ FnOk P w K mg base (L2.CX P w) k f fd ps (SpD K mg ar rk m)
theorem se_call {G : Gx} {ar : List Md} {rk : Kd} {m : List D → W D} {ta : TA} {wa : Env → W (List D)} (hG : G.pl = C.pl) (h : SA G C M Wx ar ta wa) : SE G C M Wx rk (tCallS (SpD G.K G.mg ar rk m) (WE Wx) ta) (appW m wa) := by
  intro F H σ ρ s Qd Ed Q hw hq hx
  refine h F H σ ρ s _ Ed _ hw (fun ds vs F1 H1 g1 a1 q1 => ?_) hx
  refine ⟨C.pl, F1, ds, g1.fh, g1.pool, by rw [← hG]; exact a1, Qd, Ed, q1, fun d v F' H' g k q => ?_, fun x cls dd F' H' g i q => ?_⟩
  · exact hq d v F' H' (g1.trans g) (by rw [← hG] at k; exact k.gr fun a ha => g1.back g1.pool a ha) q
  · exact hx x cls dd F' H' (g1.trans g) (by rw [← hG] at i; exact i) q
theorem de_call {k : Nat} {x : Str} {ar : List Md} {rk : Kd} {m : List D → W D} {e : Expr} {es : List Expr} {wa : Env → W (List D)} {p : Pos} (Fn : FnD X.prog X.w X.K X.mg X.base x k ar rk m) (hr : Room k X.A) (hg : Gl X x) (tk : Takes X Wx) (ha : DA X C M Wx ar (e :: es) wa)
    (hdb : (x == ("__debug__" : Str)) = false := by decide) (he : starEach (e :: es) X.env = (false, eval e X.env) :: starEach es X.env := by rfl) (hpl : (backTo pos (starEach es X.env)).any (·.1) = false := by rfl) :
    DE X C M Wx rk (.Call (.Name x p) (e :: es) [] pos) (appW m wa) := by
  obtain ⟨f, fd, ps, hm, hk, hb, F⟩ := Fn.ex
  obtain ⟨ta, pa, sa⟩ := ha.ex
  exact ⟨_, pe_callS F hr hg hm hk hb (fun σ => passAt tk σ) pa hdb he hpl, se_call (G := gx X C) rfl sa⟩
/-- a def without parameters, that raises nothing -/
theorem de_call0 {k : Nat} {x : Str} {rk : Kd} {m : List D → W D} {p : Pos} (Fn : FnD X.prog X.w X.K X.mg X.base x k [] rk m) (hr : Room k X.A) (hg : Gl X x) (hdb : (x == ("__debug__" : Str)) = false := by decide) :
    DE X C M Wx rk (.Call (.Name x p) [] [] pos) (fun _ Q _ => m [] Q noX) := by
  obtain ⟨f, fd, ps, hm, hk, hb, F⟩ := Fn.ex
  refine ⟨_, pe_call0 (E := E0) F hr hg hm hk hb .nil passL hdb, fun F H σ ρ s Qd Ed Q hw hq hx => ?_⟩
  exact ⟨C.pl, F, [], s.base.fh, s.base.pool, .nil, Qd, noX, hw, fun d v F' H' g k q => hq d v F' H' g k q, fun x cls dd F' H' g i q => q.elim⟩
/-- what a def of the top comes to: st, with the parameters' modes -/
structure DefOk (K : PySem.W.Frag) (mg : Str → Option Value) (x : Str) (st : Stmt) : Prop where
  ex : ∃ (f : Addr) (fd : FuncData), FunD K x x (defArgs st) (defBody st) (defScope st) [] [] f fd ∧ mg x = some (.ref f)
theorem fun_of {K : PySem.W.Frag} {x qual : Str} {st : Stmt} {f : Addr} {fd : FuncData} {kws : List (Str × V)} (F : FunD K x qual (defArgs st) (defBody st) (defScope st) [] kws f fd) : Fun K x qual st f fd := by
  obtain ⟨⟨oc, od, dV, kV, doc, pm, an, cdv, ct, osl, e, lk, hcd, d1, _⟩, kp⟩ := F
  have : dV = .none := by
    rcases d1 with ⟨_, h⟩ | ⟨h, _⟩
    · exact h
    · exact absurd rfl h
  subst this
  exact ⟨⟨oc, od, kV, doc, pm, an, cdv, ct, osl, e, lk, hcd⟩, kp⟩
theorem args_get {G : Gx} {F H : Hp} : ∀ {ar : List Md} {ds : List D} {vs : List V}, ArgsOk G F H ar ds vs → ∀ (i : Nat) (d : D), ds[i]? = some d → ∃ m v, ar[i]? = some m ∧ vs[i]? = some v ∧ ArgOk G F H m d v
  | _, _, _, .nil, i, d, e => by simp at e
  | _, _, _, .cons h t, 0, d, e => by simp at e; subst e; exact ⟨_, _, rfl, rfl, h⟩
  | _, _, _, .cons h t, i + 1, d, e => by
    obtain ⟨m, v, e1, e2, h2⟩ := args_get t i d (by simpa using e)
    exact ⟨m, v, by simpa using e1, by simpa using e2, h2⟩
theorem sr_start {G : Gx} {pl : List Addr} {F H : Hp} {ar : List Md} {ds : List D} {vs : List V} {N : List Str} {n : Nat} (hG : G.pl = pl) (fh : Ex F (hid pl H)) (po : PoolOk pl H) (a : ArgsOk G F H ar ds vs) (hn : N.length = n) (hle : ar.length ≤ n) :
    SR G ⟨pl, F, H⟩ (ar ++ List.replicate (n - ar.length) .v) F H (L2.start N vs) (ds.map some ++ List.replicate (n - ds.length) none) := by
  obtain ⟨l1, l2⟩ := a.len
  refine ⟨⟨hid_ex, Ex.refl F, fh, fun _ _ e => .inl e, po⟩, by simp [L2.start, l1, hn], by simp [l2], fun _ => [], ⟨fun _ => List.nodup_nil, by simp, by simp⟩, fun i d e => ?_⟩
  by_cases hi : i < ds.length
  · rw [List.getElem?_append_left (by simpa using hi), List.getElem?_map] at e
    cases e2 : ds[i]? with
    | none => rw [e2] at e; cases e
    | some d' =>
      rw [e2] at e
      cases e
      obtain ⟨m, v, e3, e4, h⟩ := args_get a i d e2
      have hi2 : i < vs.length := by omega
      refine ⟨m, v, by rw [List.getElem?_append_left (by omega)]; exact e3, ?_, ?_⟩
      · unfold L2.start
        rw [List.getElem?_append_left (by simpa using hi2), List.getElem?_map, e4]
        rfl
      · cases m with
        | v => exact ⟨h, rfl⟩
        | b => refine ⟨?_, rfl⟩; show Is G (hid pl H) d v; rw [← hG]; exact h
        | o => exact h.elim
        | p => exact h.elim
  · rw [List.getElem?_append_right (by simp; omega)] at e
    have := List.mem_of_getElem? e
    simp at this
/-- THE RULE for a def: its body's meaning -/
theorem fn_d {P : Program} {w : World} {K : PySem.W.Frag} {mg : Str → Option Value} {base : Heap} {x : Str} {st : Stmt} {N ps : List Str} {k : Nat} {ar : List Md} {rk : Kd} {m : Env → W Fl} (d : DefOk K mg x st) (S : FnScope N ps (defScope st)) (n : Nat) (hn : N.length = n) (hps : ps.length = ar.length)
    (hb : ∀ (kV doc pm : Value) (an : Option Addr) (cdv ct : Value) (us : List Value), us.length = ps.length → bindArgs (PySem.W.fnOf x x (defArgs st) (defBody st) (defScope st) .none kV doc pm an cdv ct) ⟨us, []⟩ = pure (ps.zip us)) (hle : ar.length ≤ n)
    (hv : rk.isR = false) (hbody : ∀ (f : Addr) (cdv : Value) (A : Around) (outer : List PySem.Env) (s : Shared) (pl : List Addr) (F H : Hp) (E : XK), Room k (A.deeper (envOfC x (defScope st) s.heap.objs.size f cdv)) →
      ∃ M', DSs (cxOf (L2.CX P w) P w K mg base N x (defScope st) f cdv A outer s H E) ⟨pl, F, H⟩ (ar ++ List.replicate (n - ar.length) .v) rk (fun cls dd _ H => E cls dd H) (ar ++ List.replicate (n - ar.length) .v) M' (defBody st) m) :
    FnD P w K mg base x (k + 1) ar rk (runW n m) := by
  obtain ⟨f, fd, Fd, hm⟩ := d.ex
  have Fu := fun_of Fd
  refine ⟨f, fd, ps, hm, Fu.kp, Fu.binds hb, Fu.okX S (fun vs H Q E h => ?_) fun cdv A outer s H vs Q E hr h => ?_⟩
  · obtain ⟨pl, F, ds, _, _, a, _⟩ := h
    rw [a.len.1, hps]
  · obtain ⟨pl, F, ds, fh, po, a, Qd, Ed, hw, h1, h2⟩ := h
    obtain ⟨M', hd⟩ := hbody f cdv A outer s pl F H E hr
    obtain ⟨ts, p, sd⟩ := hd.ex
    refine ⟨ts, p, ?_⟩
    have st := sr_start (G := ⟨K, mg, pl⟩) (N := N) rfl fh po a hn hle
    refine sd F H _ _ st _ Ed _ hw (fun σ' ρ' F' H' e s' q => ?_) (fun _ _ _ _ _ _ q => q.elim) (fun _ _ _ _ _ _ q => q.elim) (fun d v F' H' e s' k q => h1 d v F' H' s'.toGr k q) fun x cls dd σ' F' H' e s' i q => h2 x cls dd F' H' s'.toGr i q
    refine h1 .non .non F' H' s'.base.toGr ?_ q
    cases rk with
    | v => exact rfl
    | r => cases hv
    | n n => exact ⟨[], ⟨rfl, rfl⟩, List.nodup_nil, by simp⟩
end
end DL

namespace DL
open PySem PySem.Spec PyProof.Rows L2

/-! ### plain data: as the library compares them -/
mutual
def py : D → PyData
  | .bl b => .bool b
  | .int i => .int i
  | .str s => .str s
  | .tup xs => .tuple (pyL xs)
  | .lst xs => .list (pyL xs)
  | _ => .none
def pyL : List D → List PyData
  | [] => []
  | x :: xs => py x :: pyL xs
end
theorem pyL_map : ∀ xs : List D, pyL xs = xs.map py
  | [] => rfl
  | x :: xs => by rw [pyL, List.map_cons, pyL_map xs]
def flat : D → Bool
  | .non => true | .bl _ => true | .int _ => true | .str s => PyData.strOk s | _ => false
/-- plain, at most so deep -/
def plain : Nat → D → Bool
  | n + 1, .tup xs => xs.all (plain n)
  | n + 1, .lst xs => xs.all (plain n)
  | _, d => flat d
def eqD (x y : D) : Bool := PyData.eqv (py x) (py y)
theorem plain_lay : ∀ (n : Nat) (d : D), plain n d = true → (py d).canLay0 = true ∧ (py d).depth ≤ n
  | 0, d, h => by cases d <;> simp [plain, flat] at h <;> simp [py, PyData.canLay0, PyData.depth, *]
  | n + 1, d, h => by
    cases d with
    | tup xs =>
      have h2 : ∀ xs : List D, xs.all (plain n) = true → PyData.canLayAll0 (pyL xs) = true ∧ PyData.depthAll (pyL xs) ≤ n := by
        intro xs
        induction xs with
        | nil => intro _; simp [pyL, PyData.canLayAll0, PyData.depthAll]
        | cons x xs ih =>
          intro h
          simp only [List.all_cons, Bool.and_eq_true] at h
          obtain ⟨a, b⟩ := plain_lay n x h.1
          obtain ⟨c, e⟩ := ih h.2
          simp only [pyL, PyData.canLayAll0, PyData.depthAll, Bool.and_eq_true]
          exact ⟨⟨a, c⟩, by omega⟩
      obtain ⟨a, b⟩ := h2 xs h
      exact ⟨by simpa [py, PyData.canLay0] using a, by simp only [py, PyData.depth]; omega⟩
    | lst xs =>
      have h2 : ∀ xs : List D, xs.all (plain n) = true → PyData.canLayAll0 (pyL xs) = true ∧ PyData.depthAll (pyL xs) ≤ n := by
        intro xs
        induction xs with
        | nil => intro _; simp [pyL, PyData.canLayAll0, PyData.depthAll]
        | cons x xs ih =>
          intro h
          simp only [List.all_cons, Bool.and_eq_true] at h
          obtain ⟨a, b⟩ := plain_lay n x h.1
          obtain ⟨c, e⟩ := ih h.2
          simp only [pyL, PyData.canLayAll0, PyData.depthAll, Bool.and_eq_true]
          exact ⟨⟨a, c⟩, by omega⟩
      obtain ⟨a, b⟩ := h2 xs h
      exact ⟨by simpa [py, PyData.canLay0] using a, by simp only [py, PyData.depth]; omega⟩
    | _ => simp [plain, flat] at h <;> simp [py, PyData.canLay0, PyData.depth, *]
theorem plain_shaped {d : D} (h : plain 50 d = true) : SeqAt.shaped (py d) = true := by
  obtain ⟨a, b⟩ := plain_lay 50 d h
  unfold SeqAt.shaped
  rw [a, Bool.true_and, decide_eq_true_eq]
  omega
theorem Is.dp {G : Gx} {H : Hp} : ∀ (n : Nat) (d : D) (v : V), plain n d = true → Is G H d v → Dp G.K H v (py d)
  | n, .non, v, _, h => by rw [show v = .non from h]; exact .non
  | n, .bl b, v, _, h => by rw [show v = .bl b from h]; exact .bl b
  | n, .int i, v, _, h => by rw [show v = .int i from h]; exact .int i
  | n, .str s, v, _, h => by rw [show v = .str s from h]; exact .str s
  | 0, .tup xs, v, hp, _ => by simp [plain, flat] at hp
  | 0, .lst xs, v, hp, _ => by simp [plain, flat] at hp
  | n + 1, .tup xs, v, hp, h => by
    obtain ⟨a, vs, rfl, h1, h2⟩ := h
    have hall : ∀ (xs : List D) (vs : List V), xs.all (plain n) = true → IsL G H xs vs → DpAll G.K H vs (pyL xs) := by
      intro xs
      induction xs with
      | nil => intro vs _ h; rw [show vs = [] from h]; exact .nil
      | cons x xs ih =>
        intro vs hp h
        simp only [List.all_cons, Bool.and_eq_true] at hp
        obtain ⟨v, r, rfl, q1, q2⟩ := h
        exact .cons (Is.dp n x v hp.1 q1) (ih r hp.2 q2)
    exact .tup h1.sq (hall xs vs hp h2)
  | n + 1, .lst xs, v, hp, h => by
    obtain ⟨a, vs, rfl, h1, h2⟩ := h
    have hall : ∀ (xs : List D) (vs : List V), xs.all (plain n) = true → IsL G H xs vs → DpAll G.K H vs (pyL xs) := by
      intro xs
      induction xs with
      | nil => intro vs _ h; rw [show vs = [] from h]; exact .nil
      | cons x xs ih =>
        intro vs hp h
        simp only [List.all_cons, Bool.and_eq_true] at hp
        obtain ⟨v, r, rfl, q1, q2⟩ := h
        exact .cons (Is.dp n x v hp.1 q1) (ih r hp.2 q2)
    exact .lst (.inl (.inl h1)) (hall xs vs hp h2)
  | n, .dct _ _, v, hp, _ => by cases n <;> simp [plain, flat] at hp
  | n, .dtt _ _, v, hp, _ => by cases n <;> simp [plain, flat] at hp
  | n, .obj _ _ _, v, hp, _ => by cases n <;> simp [plain, flat] at hp
  | n, .glo _, v, hp, _ => by cases n <;> simp [plain, flat] at hp
  | n, .pool, v, hp, _ => by cases n <;> simp [plain, flat] at hp
  | n, .scr _, v, hp, _ => by cases n <;> simp [plain, flat] at hp
  | n, .rng _ _, v, hp, _ => by cases n <;> simp [plain, flat] at hp

/-! ### operations over data -/
def failW {α : Type} : W α := fun _ _ => False
def eqW : D → D → W D := fun x y Q _ => plain 50 x = true ∧ plain 50 y = true ∧ Q (.bl (eqD x y))
def neW : D → D → W D := fun x y Q _ => plain 50 x = true ∧ plain 50 y = true ∧ Q (.bl (!eqD x y))
def cmpW (p : Int → Int → Bool) : D → D → W D := fun x y Q _ => match x, y with | .int i, .int j => Q (.bl (p i j)) | _, _ => False
def ltW := cmpW fun i j => decide (i < j)
def leW := cmpW fun i j => decide (i ≤ j)
def gtW := cmpW fun i j => decide (j < i)
def geW := cmpW fun i j => decide (j ≤ i)
def isNW : D → D → W D := fun x _ Q _ => match x with | .non => Q (.bl true) | _ => Q (.bl false)
def notNW : D → D → W D := fun x _ Q _ => match x with | .non => Q (.bl false) | _ => Q (.bl true)
def addW : D → D → W D := fun x y Q _ => match x, y with
  | .int i, .int j => Q (.int (i + j))
  | .tup a, .tup b => a.length + b.length ≤ sizeLine ∧ Q (.tup (a ++ b))
  | .lst a, .lst b => a.length + b.length ≤ sizeLine ∧ Q (.lst (a ++ b))
  | .str a, .str b => a.length + b.length ≤ sizeLine ∧ Q (.str (a ++ b))
  | _, _ => False
def subW : D → D → W D := fun x y Q _ => match x, y with | .int i, .int j => Q (.int (i - j)) | _, _ => False
def mulW : D → D → W D := fun x y Q _ => match x, y with | .int i, .int j => CMul i j ∧ Q (.int (i * j)) | _, _ => False
def divW : D → D → W D := fun x y Q _ => match x, y with | .int i, .int j => CDiv i j ∧ Q (.int (i / j)) | _, _ => False
def modW : D → D → W D := fun x y Q _ => match x, y with | .int i, .int j => 0 < j ∧ Q (.int (i % j)) | _, _ => False
def keyOf : D → Option Key
  | .int i => some (.inl i)
  | .str s => some (.inr s)
  | _ => none
def keysOf : List D → Option (List Key)
  | [] => some []
  | d :: ds => match keyOf d, keysOf ds with | some k, some r => some (k :: r) | _, _ => none
def dget {κ : Type} [DecidableEq κ] (ks : List κ) (ds : List D) (k : κ) : Option D := ((ks.zip ds).find? fun p => decide (p.1 = k)).map (·.2)
def inB (x y : D) : Option Bool := match y with
  | .tup xs => if plain 50 x = true ∧ xs.all (plain 49) = true then some (xs.any fun z => eqD z x) else none
  | .lst xs => if plain 50 x = true ∧ xs.all (plain 49) = true then some (xs.any fun z => eqD z x) else none
  | .dct ks _ => (keyOf x).map fun k => ks.any fun z => decide (z = k)
  | .dtt ks _ => match x with | .tup xs => (keysOf xs).map fun k => ks.any fun z => decide (z = k) | _ => none
  | _ => none
def inW : D → D → W D := fun x y Q _ => match inB x y with | some b => Q (.bl b) | none => False
def ninW : D → D → W D := fun x y Q _ => match inB x y with | some b => Q (.bl (!b)) | none => False

section
variable {X : Cx} {C : Cf} {M : List Md} {Wx : WX} {pos : Pos} {G : Gx}
/-- a result that needs no heap -/
theorem fin0 {k : Kd} (hk : k = .v ∨ k = .r) {F H : Hp} (fh : Ex F (hid G.pl H)) (po : PoolOk G.pl H) {Qd : D → Prop} {Q : VK} (hq : ∀ d z F' H', Gr G.pl F H F' H' → KOk G H F' H' k d z → Qd d → Q z H') {d : D} {v : V} (h : ∀ H', Is G H' d v) (q : Qd d) : Q v H :=
  hq d v F H (Gr.refl fh po) (by rcases hk with rfl | rfl <;> exact h _) q
theorem KIn.int {F H : Hp} {k : Kd} {i : Int} {v : V} (h : KIn G F H k (.int i) v) : v = .int i := by
  cases k with
  | v => exact h
  | r => exact h
  | n n => exact h.elim
theorem KIn.ih {F H : Hp} (fh : Ex F (hid G.pl H)) {k : Kd} {d : D} {v : V} (h : KIn G F H k d v) : Is G (hid G.pl H) d v := by
  cases k with
  | v => exact Is.mono fh _ _ h
  | r => exact h
  | n n => exact h.elim
theorem KIn.at {F H : Hp} (fh : Ex F (hid G.pl H)) {k : Kd} {d : D} {v : V} (h : KIn G F H k d v) : Is G H d v := Is.mono hid_ex _ _ (h.ih fh)
theorem ops_cmp {k1 k2 : Kd} (p : Int → Int → Bool) : OpS G k1 k2 .v (rI0 fun i j => .bl (p i j)) (cmpW p) := by
  intro F H fh po x y v u hx hy Qd Ed Q hw hq
  cases x <;> try exact hw.elim
  cases y <;> try exact hw.elim
  exact ⟨_, _, hx.int, hy.int, fin0 (.inl rfl) fh po hq (d := .bl _) (fun _ => rfl) hw⟩
theorem ops_eq {k1 k2 : Kd} : OpS G k1 k2 .v (rEqD G.K) eqW := by
  intro F H fh po x y v u hx hy Qd Ed Q hw hq
  obtain ⟨p1, p2, q⟩ := hw
  exact ⟨py x, py y, Is.dp 50 x v p1 (hx.at fh), Is.dp 50 y u p2 (hy.at fh), plain_shaped p1, plain_shaped p2, fin0 (.inl rfl) fh po hq (d := .bl _) (fun _ => rfl) q⟩
theorem ops_ne {k1 k2 : Kd} : OpS G k1 k2 .v (rNeD G.K) neW := by
  intro F H fh po x y v u hx hy Qd Ed Q hw hq
  obtain ⟨p1, p2, q⟩ := hw
  exact ⟨py x, py y, Is.dp 50 x v p1 (hx.at fh), Is.dp 50 y u p2 (hy.at fh), plain_shaped p1, plain_shaped p2, fin0 (.inl rfl) fh po hq (d := .bl _) (fun _ => rfl) q⟩
theorem Is.isNon {H : Hp} {d : D} {v : V} (h : Is G H d v) : (v = .non) ↔ d = .non := by
  cases d <;> simp only [Is] at h <;> (try (obtain ⟨a, h⟩ := h)) <;> (try (obtain ⟨b, h⟩ := h)) <;> (try (obtain ⟨c, e, h⟩ := h)) <;> simp_all
theorem ops_isN {k1 k2 : Kd} : OpS G k1 k2 .v (fun x y H Q => y = .non ∧ Q (.bl (decide (x = .non))) H) (fun x y Q E => y = .non ∧ isNW x y Q E) := by
  intro F H fh po x y v u hx hy Qd Ed Q hw hq
  obtain ⟨rfl, hw⟩ := hw
  refine ⟨hy.at fh, ?_⟩
  have e := (hx.at fh).isNon
  cases x <;> (first | rw [decide_eq_true (e.mpr rfl)] | rw [decide_eq_false (fun z => by cases e.mp z)]) <;> exact fin0 (.inl rfl) fh po hq (d := .bl _) (fun _ => rfl) hw
theorem ops_notN {k1 k2 : Kd} : OpS G k1 k2 .v (fun x y H Q => y = .non ∧ Q (.bl (!decide (x = .non))) H) (fun x y Q E => y = .non ∧ notNW x y Q E) := by
  intro F H fh po x y v u hx hy Qd Ed Q hw hq
  obtain ⟨rfl, hw⟩ := hw
  refine ⟨hy.at fh, ?_⟩
  have e := (hx.at fh).isNon
  cases x <;> (first | rw [decide_eq_true (e.mpr rfl)] | rw [decide_eq_false (fun z => by cases e.mp z)]) <;> exact fin0 (.inl rfl) fh po hq (d := .bl _) (fun _ => rfl) hw
/-- + of ints, tuples, lists, texts -/
def rAddA (K : PySem.W.Frag) : R2 := fun x y H Q => (rI0 fun i j => .int (i + j)) x y H Q ∨ rCatA K x y H Q ∨ rCat x y H Q ∨ ∃ i j, x = .str i ∧ y = .str j ∧ i.length + j.length ≤ sizeLine ∧ Q (.str (i ++ j)) H
theorem op_addA : OpR X (binaryOp .Add) (rAddA X.K) := op_add.or (op_catA.or (op_cat.or op_add_str))
theorem IsL.append {H : Hp} : ∀ {a b : List D} {xs ys : List V}, IsL G H a xs → IsL G H b ys → IsL G H (a ++ b) (xs ++ ys)
  | [], _, _, _, h, h2 => by rw [show _ = [] from h]; exact h2
  | _ :: _, _, _, _, h, h2 => by
    obtain ⟨v, r, rfl, h3, h4⟩ := h
    exact ⟨v, r ++ _, rfl, h3, IsL.append h4 h2⟩
/-- a new tuple of what is frozen -/
theorem fin_tup {F H : Hp} (fh : Ex F (hid G.pl H)) (po : PoolOk G.pl H) {Qd : D → Prop} {Q : VK} (hq : ∀ d z F' H', Gr G.pl F H F' H' → KOk G H F' H' .v d z → Qd d → Q z H') {ds : List D} {vs : List V} (h : IsL G F ds vs) (q : Qd (.tup ds)) {p : Addr} (hp : H p = none) : Q (.ref p) (upd H p (.tup vs)) := by
  have g := Gr.new (o := .tup vs) fh po hp
  exact hq (.tup ds) (.ref p) _ _ g ⟨p, vs, rfl, upd_same, IsL.mono g.ff ds vs h⟩ q
theorem fin_lst {F H : Hp} (fh : Ex F (hid G.pl H)) (po : PoolOk G.pl H) {Qd : D → Prop} {Q : VK} (hq : ∀ d z F' H', Gr G.pl F H F' H' → KOk G H F' H' (.n 1) d z → Qd d → Q z H') {ds : List D} {vs : List V} (h : IsL G F ds vs) (q : Qd (.lst ds)) {p : Addr} (hp : H p = none) : Q (.ref p) (upd H p (.lst vs)) := by
  have g := Gr.laid (o := .lst vs) fh po hp
  have fp : F p = none := by
    cases e : F p with
    | none => rfl
    | some u => have := (hid_some (fh p u e)).2; rw [hp] at this; cases this
  exact hq (.lst ds) (.ref p) _ _ g ⟨[p], ⟨p, vs, [], rfl, fp, upd_same, .of h, rfl⟩, by simp, by simp [hp]⟩ q
theorem ops_add : OpS G .v .v .v (rAddA G.K) addW := by
  intro F H fh po x y v u hx hy Qd Ed Q hw hq
  cases x <;> try exact hw.elim
  · cases y <;> try exact hw.elim
    exact .inl ⟨_, _, hx.int, hy.int, fin0 (.inl rfl) fh po hq (d := .int _) (fun _ => rfl) hw⟩
  · cases y <;> try exact hw.elim
    obtain ⟨hl, hw⟩ := hw
    exact .inr (.inr (.inr ⟨_, _, hx, hy, hl, fin0 (.inl rfl) fh po hq (d := .str _) (fun _ => rfl) hw⟩))
  · rename_i a
    cases y <;> try exact hw.elim
    rename_i b
    obtain ⟨hl, hw⟩ := hw
    obtain ⟨p1, vs, rfl, t1, i1⟩ := hx
    obtain ⟨p2, us, rfl, t2, i2⟩ := hy
    have F2 : Ex F H := fh.trans hid_ex
    refine .inr (.inl ⟨p1, p2, vs, us, rfl, rfl, F2.st t1.sq, F2.st t2.sq, by rw [i1.len, i2.len]; exact hl, fun e => ?_, fun _ e => ?_, fun _ _ p hp => fin_tup fh po hq (i1.append i2) hw hp⟩)
    · have : a = [] := by have := i1.len; rw [e] at this; exact List.length_eq_zero_iff.mp this.symm
      subst this
      exact hq (.tup _) _ F H (Gr.refl fh po) (show Is G F (.tup _) _ from ⟨p2, us, rfl, t2, i2⟩) hw
    · have : b = [] := by have := i2.len; rw [e] at this; exact List.length_eq_zero_iff.mp this.symm
      subst this
      rw [List.append_nil] at hw
      exact hq (.tup _) _ F H (Gr.refl fh po) (show Is G F (.tup _) _ from ⟨p1, vs, rfl, t1, i1⟩) hw
  · rename_i a
    cases y <;> try exact hw.elim
    rename_i b
    obtain ⟨hl, hw⟩ := hw
    obtain ⟨p1, vs, rfl, t1, i1⟩ := hx
    obtain ⟨p2, us, rfl, t2, i2⟩ := hy
    have F2 : Ex F H := fh.trans hid_ex
    refine .inr (.inr (.inl ⟨p1, p2, vs, us, rfl, rfl, F2 _ _ t1, F2 _ _ t2, by rw [i1.len, i2.len]; exact hl, fun p hp => ?_⟩))
    refine fin_lst (Qd := Qd) fh po (fun d z F' H' g k q => ?_) (i1.append i2) hw hp
    obtain ⟨F3, g3, k3⟩ := KOk.v_of_n (C := ⟨G.pl, F, H⟩) g po k
    exact hq d z F3 H' g3 k3 q
theorem ops_sub {k1 k2 : Kd} : OpS G k1 k2 .v (rI0 fun i j => .int (i - j)) subW := by
  intro F H fh po x y v u hx hy Qd Ed Q hw hq
  cases x <;> try exact hw.elim
  cases y <;> try exact hw.elim
  exact ⟨_, _, hx.int, hy.int, fin0 (.inl rfl) fh po hq (d := .int _) (fun _ => rfl) hw⟩
theorem ops_mul {k1 k2 : Kd} : OpS G k1 k2 .v (rI CMul fun i j => .int (i * j)) mulW := by
  intro F H fh po x y v u hx hy Qd Ed Q hw hq
  cases x <;> try exact hw.elim
  cases y <;> try exact hw.elim
  exact ⟨_, _, hx.int, hy.int, hw.1, fin0 (.inl rfl) fh po hq (d := .int _) (fun _ => rfl) hw.2⟩
theorem ops_div {k1 k2 : Kd} : OpS G k1 k2 .v (rI CDiv fun i j => .int (i / j)) divW := by
  intro F H fh po x y v u hx hy Qd Ed Q hw hq
  cases x <;> try exact hw.elim
  cases y <;> try exact hw.elim
  exact ⟨_, _, hx.int, hy.int, hw.1, fin0 (.inl rfl) fh po hq (d := .int _) (fun _ => rfl) hw.2⟩
theorem ops_mod {k1 k2 : Kd} : OpS G k1 k2 .v (rI (fun _ j => 0 < j) fun i j => .int (i % j)) modW := by
  intro F H fh po x y v u hx hy Qd Ed Q hw hq
  cases x <;> try exact hw.elim
  cases y <;> try exact hw.elim
  exact ⟨_, _, hx.int, hy.int, hw.1, fin0 (.inl rfl) fh po hq (d := .int _) (fun _ => rfl) hw.2⟩
end
end DL

namespace DL
open PySem PySem.Spec PyProof.Rows L2

section
variable {X : Cx} {C : Cf} {M : List Md} {Wx : WX} {pos : Pos} {G : Gx}
/-! ### keys of dicts -/
theorem keyOf_v {H : Hp} {d : D} {v : V} {k : Key} (h : Is G H d v) (e : keyOf d = some k) : v = kV k := by
  cases d <;> simp [keyOf] at e <;> subst e <;> exact h
theorem keysOf_v {H : Hp} : ∀ {ds : List D} {vs : List V} {ks : List Key}, IsL G H ds vs → keysOf ds = some ks → vs = ks.map kV
  | [], _, _, h, e => by rw [show _ = [] from h]; simp [keysOf] at e; subst e; rfl
  | d :: ds, _, ks, h, e => by
    obtain ⟨v, r, rfl, h1, h2⟩ := h
    unfold keysOf at e
    cases e1 : keyOf d with
    | none => rw [e1] at e; cases e
    | some k =>
      cases e2 : keysOf ds with
      | none => rw [e1, e2] at e; cases e
      | some r' =>
        rw [e1, e2] at e
        have e : k :: r' = ks := Option.some.inj e
        subst e
        rw [keyOf_v h1 e1, keysOf_v h2 e2]
        rfl
theorem valV_zip {κ : Type} [DecidableEq κ] {H : Hp} {k : κ} : ∀ {vs : List (κ × V)} {ds : List D}, IsL G H ds (vs.map Prod.snd) →
    (dget (vs.map Prod.fst) ds k = none ∧ valV vs k = none) ∨ ∃ d v, dget (vs.map Prod.fst) ds k = some d ∧ valV vs k = some v ∧ Is G H d v
  | [], [], _ => .inl ⟨rfl, rfl⟩
  | [], d :: ds, h => by obtain ⟨v, r, e, _⟩ := h; cases e
  | p :: vs, [], h => by cases h
  | p :: vs, d :: ds, h => by
    obtain ⟨v, r, e, h1, h2⟩ := h
    injection e with e1 e2
    subst e1 e2
    by_cases hk : p.1 = k
    · refine .inr ⟨d, p.2, ?_, valV_pos hk, h1⟩
      simp [dget, List.find?_cons, hk]
    · rw [valV_neg hk]
      have : dget ((p :: vs).map Prod.fst) (d :: ds) k = dget (vs.map Prod.fst) ds k := by simp [dget, List.find?_cons, hk]
      rw [this]
      exact valV_zip h2
theorem valV_mem {κ : Type} [DecidableEq κ] {k : κ} : ∀ (vs : List (κ × V)), (valV vs k).isSome = (vs.map Prod.fst).any fun z => decide (z = k)
  | [] => rfl
  | p :: vs => by
    by_cases hk : p.1 = k
    · rw [valV_pos hk]; simp [hk]
    · rw [valV_neg hk, valV_mem vs]; simp [hk]
/-! ### in -/
def rInA (K : PySem.W.Frag) (neg : Bool) : R2 := fun x y H Q => (∃ d ds, Dp K H x d ∧ (Dp K H y (.list ds) ∨ Dp K H y (.tuple ds)) ∧ SeqAt.shaped d = true ∧ PyData.canLayAll0 ds = true ∧ Q (.bl (if neg then !ds.any fun z => PyData.eqv z d else ds.any fun z => PyData.eqv z d)) H) ∨
  ∃ a o, y = .ref a ∧ DGet H a x o ∧ Q (.bl (if neg then !o.isSome else o.isSome)) H
theorem op_inA (hu : X.A.units + 65 < cLine) : OpR X (compareOp .In) (rInA X.K false) := by
  intro pins s σ H x y v u Q I rx ry h
  rcases h with ⟨d, ds, hd, he, sd, se, q⟩ | ⟨a, o, rfl, g, q⟩
  · obtain ⟨as, r1⟩ := Dp.reads I d x v hd rx
    rcases he with he | he
    · obtain ⟨bs, r2⟩ := Dp.reads I (.list ds) y u he ry
      exact SeqAt.in_list_reads r2 r1 (by simpa [PyData.canLay0] using se) (SeqAt.canLay_of_shaped sd) (room_in_shaped sd hu) ⟨.bl _, H, I, rfl, q⟩
    · obtain ⟨bs, r2⟩ := Dp.reads I (.tuple ds) y u he ry
      exact SeqAt.in_tuple_reads r2 r1 (by simpa [PyData.canLay0] using se) (SeqAt.canLay_of_shaped sd) (room_in_shaped sd hu) ⟨.bl _, H, I, rfl, q⟩
  · cases ry
    exact d_in (by omega) I g rx fun s' I' => ⟨.bl _, H, I', rfl, q⟩
theorem op_ninA (hu : X.A.units + 65 < cLine) : OpR X (compareOp .NotIn) (rInA X.K true) := by
  intro pins s σ H x y v u Q I rx ry h
  rcases h with ⟨d, ds, hd, he, sd, se, q⟩ | ⟨a, o, rfl, g, q⟩
  · obtain ⟨as, r1⟩ := Dp.reads I d x v hd rx
    rcases he with he | he
    · obtain ⟨bs, r2⟩ := Dp.reads I (.list ds) y u he ry
      exact SeqAt.notIn_list_reads r2 r1 (by simpa [PyData.canLay0] using se) (SeqAt.canLay_of_shaped sd) (room_in_shaped sd hu) ⟨.bl _, H, I, rfl, q⟩
    · obtain ⟨bs, r2⟩ := Dp.reads I (.tuple ds) y u he ry
      exact SeqAt.notIn_tuple_reads r2 r1 (by simpa [PyData.canLay0] using se) (SeqAt.canLay_of_shaped sd) (room_in_shaped sd hu) ⟨.bl _, H, I, rfl, q⟩
  · cases ry
    exact d_notIn (by omega) I g rx fun s' I' => ⟨.bl _, H, I', rfl, q⟩
theorem plainL {xs : List D} (h : xs.all (plain 49) = true) : PyData.canLayAll0 (pyL xs) = true := by
  induction xs with
  | nil => rfl
  | cons x xs ih =>
    simp only [List.all_cons, Bool.and_eq_true] at h
    simp only [pyL, PyData.canLayAll0, Bool.and_eq_true]
    exact ⟨(plain_lay 49 x h.1).1, ih h.2⟩
theorem pyL_any (xs : List D) (x : D) : ((pyL xs).any fun z => PyData.eqv z (py x)) = xs.any fun z => eqD z x := by
  rw [pyL_map, List.any_map]
  rfl
theorem in_core {neg : Bool} {F H : Hp} (fh : Ex F (hid G.pl H)) {k1 k2 : Kd} {x y : D} {v u : V} (hx : KIn G F H k1 x v) (hy : KIn G F H k2 y u) {b : Bool} {Q : VK} (e : inB x y = some b) (q : Q (.bl (if neg then !b else b)) H) : rInA G.K neg v u H Q := by
  unfold inB at e
  cases y <;> simp only at e <;> try (cases e; done)
  · rename_i xs
    split at e
    · rename_i hp
      cases e
      have hy' := hy.at fh
      have h2 : plain 50 (.tup xs) = true := hp.2
      exact .inl ⟨py x, pyL xs, Is.dp 50 x v hp.1 (hx.at fh), .inr (Is.dp 50 (.tup xs) u h2 hy'), plain_shaped hp.1, plainL hp.2, by rw [pyL_any]; exact q⟩
    · cases e
  · rename_i xs
    split at e
    · rename_i hp
      cases e
      have hy' := hy.at fh
      have h2 : plain 50 (.lst xs) = true := hp.2
      exact .inl ⟨py x, pyL xs, Is.dp 50 x v hp.1 (hx.at fh), .inl (Is.dp 50 (.lst xs) u h2 hy'), plain_shaped hp.1, plainL hp.2, by rw [pyL_any]; exact q⟩
    · cases e
  · rename_i ks ds
    cases e1 : keyOf x with
    | none => rw [e1] at e; cases e
    | some k =>
      rw [e1] at e
      cases e
      obtain ⟨a, vs, rfl, h1, h2, h3⟩ := hy.at fh
      refine .inr ⟨a, valV vs k, rfl, .inl ⟨vs, k, h1, keyOf_v (hx.at fh) e1, rfl⟩, ?_⟩
      rw [valV_mem, h2]
      exact q
  · rename_i ks ds
    cases x <;> simp only at e <;> try (cases e; done)
    rename_i xs
    cases e1 : keysOf xs with
    | none => rw [e1] at e; cases e
    | some k =>
      rw [e1] at e
      cases e
      obtain ⟨a, vs, rfl, h1, h2, h3⟩ := hy.at fh
      obtain ⟨b, us, rfl, h4, h5⟩ := hx.at fh
      refine .inr ⟨a, valV vs k, rfl, .inr ⟨vs, k, b, h1, rfl, by rw [← keysOf_v h5 e1]; exact h4, rfl⟩, ?_⟩
      rw [valV_mem, h2]
      exact q
theorem ops_in {k1 k2 : Kd} : OpS G k1 k2 .v (rInA G.K false) inW := by
  intro F H fh po x y v u hx hy Qd Ed Q hw hq
  unfold inW at hw
  split at hw
  · rename_i b e
    exact in_core fh hx hy e (fin0 (.inl rfl) fh po hq (d := .bl b) (fun _ => rfl) hw)
  · cases hw
theorem ops_nin {k1 k2 : Kd} : OpS G k1 k2 .v (rInA G.K true) ninW := by
  intro F H fh po x y v u hx hy Qd Ed Q hw hq
  unfold ninW at hw
  split at hw
  · rename_i b e
    exact in_core fh hx hy e (fin0 (.inl rfl) fh po hq (d := .bl (!b)) (fun _ => rfl) hw)
  · cases hw

/-! ### data that hold no list, dict, object -/
mutual
def im : D → Bool
  | .lst _ => false
  | .dct _ _ => false
  | .dtt _ _ => false
  | .obj _ _ _ => false
  | .tup xs => imL xs
  | .non => true
  | .bl _ => true
  | .int _ => true
  | .str _ => true
  | .glo _ => true
  | .pool => true
  | .scr _ => false
  | .rng _ _ => false
def imL : List D → Bool
  | [] => true
  | x :: xs => im x && imL xs
end
theorem imL_all : ∀ xs : List D, imL xs = xs.all im
  | [] => rfl
  | x :: xs => by rw [imL, List.all_cons, imL_all xs]
theorem im_tup {xs : List D} : im (.tup xs) = xs.all im := by rw [im, imL_all]
/- such data stand wherever the tuples do -/
mutual
theorem Is.im {H F : Hp} (k : ∀ a xs, H a = some (.tup xs) → F a = some (.tup xs)) : ∀ (d : D) (v : V), DL.im d = true → Is G H d v → Is G F d v
  | .tup xs, v, hi, h => by
    obtain ⟨a, vs, rfl, h1, h2⟩ := h
    exact ⟨a, vs, rfl, k _ _ h1, IsL.im k xs vs hi h2⟩
  | .lst _, _, hi, _ => by simp [DL.im] at hi
  | .dct _ _, _, hi, _ => by simp [DL.im] at hi
  | .dtt _ _, _, hi, _ => by simp [DL.im] at hi
  | .obj _ _ _, _, hi, _ => by simp [DL.im] at hi
  | .non, _, _, h => h
  | .bl _, _, _, h => h
  | .int _, _, _, h => h
  | .str _, _, _, h => h
  | .glo _, _, _, h => h
  | .pool, _, _, h => h
  | .scr _, _, hi, _ => by simp [DL.im] at hi
  | .rng _ _, _, hi, _ => by simp [DL.im] at hi
theorem IsL.im {H F : Hp} (k : ∀ a xs, H a = some (.tup xs) → F a = some (.tup xs)) : ∀ (ds : List D) (vs : List V), imL ds = true → IsL G H ds vs → IsL G F ds vs
  | [], _, _, h => h
  | x :: xs, _, hi, h => by
    obtain ⟨v, r, rfl, q1, q2⟩ := h
    rw [imL, Bool.and_eq_true] at hi
    exact ⟨v, r, rfl, Is.im k x v hi.1 q1, IsL.im k xs r hi.2 q2⟩
end
/-- F with all tuples of H -/
def tps (F H : Hp) : Hp := fun a => match F a with | some o => some o | none => match H a with | some (.tup xs) => some (.tup xs) | _ => none
theorem Gr.tps {pl : List Addr} {F H : Hp} (fh : Ex F (hid pl H)) (po : PoolOk pl H) : Gr pl F H (DL.tps F H) H := by
  refine ⟨fun a o e => by unfold DL.tps; rw [e], fun a o e => ?_, hid_ex, fun a o e => ?_, po⟩
  · unfold DL.tps at e
    split at e
    · rename_i o' e'
      cases e
      exact fh a _ e'
    · split at e
      · rename_i xs e2
        cases e
        have : a ∉ pl := fun z => by
          obtain ⟨ys, e3⟩ := po.there z
          rw [e2] at e3; cases e3
        rw [hid_out this]; exact e2
      · cases e
  · unfold DL.tps at e
    split at e
    · rename_i o' e'
      cases e
      exact .inl e'
    · split at e
      · cases e
        exact .inr (.inr ⟨_, rfl⟩)
      · cases e
theorem Is.up {pl : List Addr} {F H : Hp} (fh : Ex F (hid pl H)) {d : D} {v : V} (hi : DL.im d = true) (h : Is G H d v) : Is G (DL.tps F H) d v := by
  refine Is.im (fun a xs e => ?_) d v hi h
  unfold DL.tps
  cases e2 : F a with
  | none => simp [e]
  | some o =>
    have := (hid_some (fh a o e2)).2
    rw [e] at this
    cases this
    rfl

/-! ### subscripts -/
def ixB (x y : D) : Option D := match x, y with
  | .tup xs, .int i => atI xs i
  | .lst xs, .int i => atI xs i
  | .dct ks ds, y => (keyOf y).bind fun k => dget ks ds k
  | .dtt ks ds, .tup ys => (keysOf ys).bind fun k => dget ks ds k
  | _, _ => none
def ixW : D → D → W D := fun x y Q _ => match ixB x y with | some d => Q d | none => False
/-- of what is read: what comes holds no list -/
def ixrW : D → D → W D := fun x y Q _ => match ixB x y with | some d => im d = true ∧ Q d | none => False
def rIxD : R2 := fun x y H Q => ∃ a v, x = .ref a ∧ DGet H a y (some v) ∧ Q v H
theorem ix_dict (hu : X.A.units + 1 < cLine) : IxR X rIxD := by
  intro value slice pins s σ H x y v u Q I rx ry h hs
  obtain ⟨a, z, rfl, g, q⟩ := h
  cases rx
  exact tail_any (dict_typeIs I g) PySem.F.slot_dict_getitem.lookup (d_getItem hu I g ry fun w' s' I' r' => ⟨z, H, I', r', q⟩) hs
def rIxA (K : PySem.W.Frag) : R2 := fun x y H Q => rIxL K x y H Q ∨ rIxT K x y H Q ∨ rIxD x y H Q
theorem ix_any (hu : X.A.units + 1 < cLine) : IxR X (rIxA X.K) := ix_list.or (ix_tup.or (ix_dict hu))
theorem IsL.atI {H : Hp} {ds : List D} {vs : List V} {i : Int} {d : D} (h : IsL G H ds vs) (e : atI ds i = some d) : ∃ v, L2.atI vs i = some v ∧ Is G H d v := by
  unfold L2.atI at e ⊢
  rw [h.len]
  cases e1 : ixN ds.length i with
  | none => rw [e1] at e; cases e
  | some j =>
    rw [e1] at e
    exact h.get e
theorem ix_core {V' H : Hp} (k : Ex V' H) {x y : D} {v u : V} (hx : Is G V' x v) (hy : Is G H y u) {d : D} {Q : VK} (e : ixB x y = some d) (q : ∀ z, Is G V' d z → Q z H) : rIxA G.K v u H Q := by
  unfold ixB at e
  split at e
  · obtain ⟨a, vs, rfl, h1, h2⟩ := hx
    rw [show u = .int _ from hy]
    obtain ⟨z, e2, i2⟩ := h2.atI e
    exact .inr (.inl ⟨a, vs, _, z, rfl, rfl, .inl (.inl (k _ _ h1)), e2, q z i2⟩)
  · obtain ⟨a, vs, rfl, h1, h2⟩ := hx
    rw [show u = .int _ from hy]
    obtain ⟨z, e2, i2⟩ := h2.atI e
    exact .inl ⟨a, vs, _, z, rfl, rfl, .inl (.inl (k _ _ h1)), e2, q z i2⟩
  · obtain ⟨a, vs, rfl, h1, h2, h3⟩ := hx
    cases e1 : keyOf y with
    | none => rw [e1] at e; cases e
    | some kk =>
      rw [e1] at e
      subst h2
      rcases valV_zip (k := kk) h3 with ⟨e2, _⟩ | ⟨d', z, e2, e3, i3⟩
      · rw [show dget _ _ kk = some d from e] at e2; cases e2
      · rw [show dget _ _ kk = some d from e] at e2
        cases e2
        exact .inr (.inr ⟨a, z, rfl, .inl ⟨vs, kk, k.rd h1, keyOf_v hy e1, e3.symm⟩, q z i3⟩)
  · obtain ⟨a, vs, rfl, h1, h2, h3⟩ := hx
    obtain ⟨b, us, rfl, h4, h5⟩ := hy
    rename_i ys
    cases e1 : keysOf ys with
    | none => rw [e1] at e; cases e
    | some kk =>
      rw [e1] at e
      subst h2
      rcases valV_zip (k := kk) h3 with ⟨e2, _⟩ | ⟨d', z, e2, e3, i3⟩
      · rw [show dget _ _ kk = some d from e] at e2; cases e2
      · rw [show dget _ _ kk = some d from e] at e2
        cases e2
        exact .inr (.inr ⟨a, z, rfl, .inr ⟨vs, kk, b, k.rd h1, rfl, by rw [← keysOf_v h5 e1]; exact h4, e3.symm⟩, q z i3⟩)
  · cases e
theorem ops_ix {k2 : Kd} : OpS G .v k2 .v (rIxA G.K) ixW := by
  intro F H fh po x y v u hx hy Qd Ed Q hw hq
  unfold ixW at hw
  split at hw
  · rename_i d e
    exact ix_core (fh.trans hid_ex) hx (hy.at fh) e fun z i => hq d z F H (Gr.refl fh po) i hw
  · cases hw
theorem ops_ixr {k1 k2 : Kd} : OpS G k1 k2 .v (rIxA G.K) ixrW := by
  intro F H fh po x y v u hx hy Qd Ed Q hw hq
  unfold ixrW at hw
  split at hw
  · rename_i d e
    exact ix_core (Ex.refl H) (hx.at fh) (hy.at fh) e fun z i => hq d z _ H (Gr.tps fh po) (Is.up fh hw.1 i) hw.2
  · cases hw
theorem de_ix {r : R2} {f : D → D → W D} {k1 k2 k : Kd} {a b : Expr} {wa wb : Env → W D} (ho : IxR X r) (hs : OpS (gx X C) k1 k2 k r f) (ha : DE X C M Wx k1 a wa) (hb : DE X C M Wx k2 b wb) (hpl : PlainIx b) (h1 : k1.isN = false := by rfl) (h2 : k2.isN = false := by rfl) :
    DE X C M Wx k (.Subscript a b pos) (binW f wa wb) := by
  obtain ⟨ta, pa, sa⟩ := ha.ex
  obtain ⟨tb, pb, sb⟩ := hb.ex
  exact ⟨_, pe_ix ho pa pb hpl, se_op rfl h1 h2 hs sa sb⟩
end
end DL

namespace DL
open PySem PySem.Spec PyProof.Rows L2

section
variable {X : Cx} {C : Cf} {M : List Md} {Wx : WX} {pos : Pos} {G : Gx}
/-! ### what can be had frozen -/
def upOk (k : Kd) (d : D) : Prop := k = .v ∨ im d = true
theorem KIn.up {F H : Hp} (fh : Ex F (hid G.pl H)) (po : PoolOk G.pl H) {k : Kd} {d : D} {v : V} (u : upOk k d) (h : KIn G F H k d v) : ∃ F', Gr G.pl F H F' H ∧ Is G F' d v := by
  cases k with
  | v => exact ⟨F, Gr.refl fh po, h⟩
  | r =>
    rcases u with u | u
    · cases u
    · exact ⟨_, Gr.tps fh po, Is.up fh u (h.ih (k := .r) fh |> Is.mono hid_ex _ _)⟩
  | n n => exact h.elim
/-! ### displays -/
def allV : List Md → Bool
  | [] => true
  | .v :: r => allV r
  | _ :: _ => false
theorem ArgsOk.isl {F H : Hp} {ar : List Md} {ds : List D} {vs : List V} (hv : allV ar = true) (h : ArgsOk G F H ar ds vs) : IsL G F ds vs := by
  induction h with
  | nil => exact rfl
  | @cons m d v ms ds vs a t ih =>
    cases m with
    | v => exact ⟨_, _, rfl, a, ih hv⟩
    | o n => cases hv
    | b => cases hv
    | p n u => cases hv
def tupW (ws : Env → W (List D)) : Env → W D := fun ρ Q E => ws ρ (fun ds => Q (.tup ds)) E
def lstW (ws : Env → W (List D)) : Env → W D := fun ρ Q E => ws ρ (fun ds => Q (.lst ds)) E
theorem de_tup {es : List Expr} {ar : List Md} {x1} {ws : Env → W (List D)} (h : DA X C M Wx ar es ws) (hv : allV ar = true := by rfl) (hl : ar.length ≤ 1000 := by decide) : DE X C M Wx .v (.Tuple es x1 pos) (tupW ws) := by
  obtain ⟨ta, pa, sa⟩ := h.ex
  refine ⟨_, pe_tup pa, fun F H σ ρ s Qd Ed Q hw hq hx => ?_⟩
  refine sa F H σ ρ s _ Ed _ hw (fun ds vs F1 H1 g1 a1 q => ?_) hx
  have hs : sizeLine = 16777216 := sizeLine_eq
  refine ⟨by rw [a1.len.1]; omega, fun p hp => ?_⟩
  exact fin_tup (G := gx X C) g1.fh g1.pool (fun d z F' H' g k q => hq d z F' H' (g1.trans g) k q) (a1.isl hv) q hp
theorem de_lst {es : List Expr} {ar : List Md} {ws : Env → W (List D)} (h : DA X C M Wx ar es ws) (hv : allV ar = true := by rfl) (hl : ar.length ≤ 1000 := by decide) : DE X C M Wx (.n 1) (.List es pos) (lstW ws) := by
  obtain ⟨ta, pa, sa⟩ := h.ex
  refine ⟨_, pe_lst pa, fun F H σ ρ s Qd Ed Q hw hq hx => ?_⟩
  refine sa F H σ ρ s _ Ed _ hw (fun ds vs F1 H1 g1 a1 q => ?_) hx
  have hs : sizeLine = 16777216 := sizeLine_eq
  refine ⟨by rw [a1.len.1]; omega, fun p hp => ?_⟩
  exact fin_lst (G := gx X C) g1.fh g1.pool (fun d z F' H' g k q => hq d z F' H' (g1.trans g) (k.gr fun a ha => g1.back g1.pool a ha) q) (a1.isl hv) q hp
theorem de_nil (n : Nat) : DE X C M Wx (.n (n + 1)) (.List [] pos) (cW (.lst [])) := by
  refine ⟨_, pe_lst pa_nil, fun F H σ ρ s Qd Ed Q hw hq hx => ?_⟩
  have hs : sizeLine = 16777216 := sizeLine_eq
  refine ⟨by show (0 : Nat) ≤ sizeLine; omega, fun p hp => ?_⟩
  exact hq (.lst []) (.ref p) F _ (Gr.laid s.base.fh s.base.pool hp) ⟨[p], ⟨p, [], [], rfl, (s.base.nofresh hp).1, upd_same, ⟨rfl, rfl⟩, rfl⟩, by simp, by simp [hp]⟩ hw

/-! ### fields -/
/-- a class of the module with plain fields f -/
structure FldOk (K : PySem.W.Frag) (mg : Str → Option Value) (c f : Str) : Prop where
  ex : ∀ Cl, mg c = some (.ref Cl) → Cls K Cl ∧ NoAttr K Cl f
def lookS (f : Str) : List Str → List D → Option D
  | n :: ns, d :: ds => if (f == n) = true then some d else lookS f ns ds
  | _, _ => none
def fldB (cs : List Str) (f : Str) : D → Option D
  | .obj c ns ds => if cs.contains c = true then lookS f ns ds else none
  | _ => none
def fldW (cs : List Str) (f : Str) : D → W D := fun x Q _ => match fldB cs f x with | some d => Q d | none => False
theorem lookS_of {H : Hp} {f : Str} : ∀ {vs : List (Str × V)} {ds : List D} {d : D}, IsL G H ds (vs.map Prod.snd) → lookS f (vs.map Prod.fst) ds = some d → ∃ v, vs.lookup f = some v ∧ Is G H d v
  | [], [], _, _, e => by cases e
  | [], _ :: _, _, _, e => by cases e
  | _ :: _, [], _, h, e => by cases h
  | p :: vs, d0 :: ds, d, h, e => by
    obtain ⟨v, r, e1, h1, h2⟩ := h
    injection e1 with e2 e3
    subst e2 e3
    rw [List.map_cons, lookS] at e
    by_cases hk : (f == p.1) = true
    · rw [if_pos hk] at e
      cases e
      refine ⟨p.2, ?_, h1⟩
      obtain ⟨a, b⟩ := p
      rw [List.lookup_cons, hk]
    · rw [if_neg hk] at e
      obtain ⟨z, h3, h4⟩ := lookS_of h2 e
      refine ⟨z, ?_, h4⟩
      obtain ⟨a, b⟩ := p
      rw [List.lookup_cons]
      simp only [Bool.not_eq_true] at hk
      rw [hk]
      exact h3
theorem de_fld {e : Expr} {f : Str} {we : Env → W D} (cs : List Str) (hc : ∀ c ∈ cs, FldOk X.K X.mg c f) (he : DE X C M Wx .v e we) (hb : attributeBase e f X.env (eval e X.env) = eval e X.env := by rfl) : DE X C M Wx .v (.Attribute e f pos) (unW (fldW cs f) we) := by
  obtain ⟨te, p, s⟩ := he.ex
  refine ⟨_, pe_fld p hb, fun F H σ ρ r Qd Ed Q hw hq hx => ?_⟩
  refine s F H σ ρ r _ Ed _ hw (fun d v F1 H1 g1 i1 hw2 => ?_) hx
  unfold fldW at hw2
  split at hw2
  · rename_i d2 e2
    cases d with
    | obj c ns ds =>
      have e2 : (if cs.contains c = true then lookS f ns ds else none) = some d2 := e2
      by_cases hcc : cs.contains c = true
      · rw [if_pos hcc] at e2
        obtain ⟨a, Cl, dx, vs, rfl, h1, h0, h2, h3⟩ := i1
        obtain ⟨c1, n1⟩ := (hc c (by simpa using hcc)).ex Cl h0
        subst h2
        obtain ⟨v, l, i⟩ := lookS_of h3 e2
        exact ⟨a, Cl, dx, vs, v, rfl, (hid_some (g1.fh _ _ h1)).2, c1, n1, l, hq d2 v F1 H1 g1 i hw2⟩
      · rw [if_neg hcc] at e2; cases e2
    | _ => cases e2
  · cases hw2

/-! ### slices -/
def SPO (G : Gx) (C : Cf) (M : List Md) (Wx : WX) (te : TO) (w : Env → W (Option Int)) : Prop :=
  ∀ (F H : Hp) (σ : L2.St) (ρ : Env), SR G C M F H σ ρ → ∀ (Qd : Option Int → Prop) (Ed : Xn → Prop) (Q : Option Int → Hp → Prop), w ρ Qd Ed →
    (∀ o F' H', Gr C.pl F H F' H' → Qd o → Q o H') →
    (∀ x cls dd F' H', Gr C.pl F H F' H' → IsX G F' H' x cls dd → Ed x → Wx cls dd σ H') → te σ H Q
structure DPO (X : Cx) (C : Cf) (M : List Md) (Wx : WX) (e : Option Expr) (w : Env → W (Option Int)) : Prop where
  ex : ∃ te, PO X e te ∧ SPO (gx X C) C M Wx te w
def noPartW : Env → W (Option Int) := fun _ Q _ => Q none
def partW (we : Env → W D) : Env → W (Option Int) := fun ρ Q E => we ρ (fun d => match d with | .int i => Q (some i) | _ => False) E
theorem dp_none : DPO X C M Wx none noPartW := ⟨_, po_none, fun F H σ ρ r Qd Ed Q hw hq hx => hq none F H (Gr.refl r.base.fh r.base.pool) hw⟩
theorem dp_some {e : Expr} {we : Env → W D} (h : DE X C M Wx .v e we) : DPO X C M Wx (some e) (partW we) := by
  obtain ⟨te, p, s⟩ := h.ex
  refine ⟨_, po_some p, fun F H σ ρ r Qd Ed Q hw hq hx => ?_⟩
  refine s F H σ ρ r _ Ed _ hw (fun d v F1 H1 g1 i1 hw2 => ?_) hx
  cases d with
  | int i => exact ⟨i, i1, hq (some i) F1 H1 g1 hw2⟩
  | _ => cases hw2
def cutD (xs : List D) (lo hi : Option Int) : List D := (xs.drop (HT.sIx xs.length 0 lo)).take (HT.sIx xs.length xs.length hi - HT.sIx xs.length 0 lo)
theorem IsL.drop {H : Hp} : ∀ {n : Nat} {ds : List D} {vs : List V}, IsL G H ds vs → IsL G H (ds.drop n) (vs.drop n)
  | 0, _, _, h => h
  | n + 1, [], _, h => by rw [show _ = [] from h]; exact rfl
  | n + 1, _ :: _, _, h => by obtain ⟨v, r, rfl, _, h2⟩ := h; exact IsL.drop (n := n) h2
theorem IsL.take {H : Hp} : ∀ {n : Nat} {ds : List D} {vs : List V}, IsL G H ds vs → IsL G H (ds.take n) (vs.take n)
  | 0, _, _, h => rfl
  | n + 1, [], _, h => by rw [show _ = [] from h]; exact rfl
  | n + 1, _ :: _, _, h => by obtain ⟨v, r, rfl, h1, h2⟩ := h; exact ⟨v, _, rfl, h1, IsL.take (n := n) h2⟩
theorem IsL.cut {H : Hp} {ds : List D} {vs : List V} (h : IsL G H ds vs) (lo hi : Option Int) : IsL G H (cutD ds lo hi) (cutV vs lo hi) := by
  unfold cutD cutV
  rw [h.len]
  exact h.drop.take
def sliceTW (we : Env → W D) (wl wh : Env → W (Option Int)) : Env → W D := fun ρ Q E => we ρ (fun x => wl ρ (fun lo => wh ρ (fun hi => match x with | .tup xs => Q (.tup (cutD xs lo hi)) | _ => False) E) E) E
def sliceLW (we : Env → W D) (wl wh : Env → W (Option Int)) : Env → W D := fun ρ Q E => we ρ (fun x => wl ρ (fun lo => wh ρ (fun hi => match x with | .lst xs => Q (.lst (cutD xs lo hi)) | .scr ns => Q (.lst (cutD (ns.map .int) lo hi)) | _ => False) E) E) E
theorem ints_is {H : Hp} : ∀ ns : List Int, IsL G H (ns.map .int) (ns.map V.int)
  | [] => rfl
  | n :: ns => ⟨_, _, rfl, rfl, ints_is ns⟩
theorem cutD_all {xs : List D} {lo hi : Option Int} (h1 : HT.sIx xs.length 0 lo = 0) (h2 : HT.sIx xs.length xs.length hi = xs.length) : cutD xs lo hi = xs := by
  unfold cutD
  rw [h1, h2]
  simp
theorem de_sliceT {e : Expr} {lo hi : Option Expr} {p2 : Pos} {we : Env → W D} {wl wh : Env → W (Option Int)} (he : DE X C M Wx .v e we) (hl : DPO X C M Wx lo wl) (hh : DPO X C M Wx hi wh) : DE X C M Wx .v (.Subscript e (.Slice lo hi none p2) pos) (sliceTW we wl wh) := by
  obtain ⟨te, p, s⟩ := he.ex
  obtain ⟨tl, pl, sl⟩ := hl.ex
  obtain ⟨th, ph, sh⟩ := hh.ex
  refine ⟨_, pe_slice sl_tupA p pl ph, fun F H σ ρ r Qd Ed Q hw hq hx => ?_⟩
  refine s F H σ ρ r _ Ed _ hw (fun d v F1 H1 g1 i1 hw2 => ?_) hx
  refine sl F1 H1 σ ρ (r.gr g1) _ Ed _ hw2 (fun lo F2 H2 g2 hw3 => ?_) fun x cls dd F2 H2 g2 => hx x cls dd F2 H2 (g1.trans g2)
  have g12 := g1.trans g2
  refine sh F2 H2 σ ρ (r.gr g12) _ Ed _ hw3 (fun hi F3 H3 g3 hw4 => ?_) fun x cls dd F2 H2 g2 => hx x cls dd F2 H2 (g12.trans g2)
  have g13 := g12.trans g3
  cases d with
  | tup xs =>
    have hw4 : Qd (.tup (cutD xs lo hi)) := hw4
    have i3 : Is (gx X C) F3 (.tup xs) v := Is.mono (g2.trans g3).ff _ _ i1
    obtain ⟨a, vs, rfl, h1, h2⟩ := i3
    refine ⟨a, vs, rfl, (g3.fh.trans hid_ex).st h1.sq, fun hc => ?_, fun _ p hp => ?_⟩
    · rw [h2.len] at hc
      rw [cutD_all hc.1 hc.2] at hw4
      exact hq (.tup xs) _ F3 H3 g13 (show Is (gx X C) F3 (.tup xs) _ from ⟨a, vs, rfl, h1, h2⟩) hw4
    · exact fin_tup (G := gx X C) g13.fh g13.pool (fun d z F' H' g k q => hq d z F' H' (g13.trans g) k q) (h2.cut lo hi) hw4 hp
  | _ => cases hw4
theorem de_sliceL {e : Expr} {lo hi : Option Expr} {p2 : Pos} {we : Env → W D} {wl wh : Env → W (Option Int)} (he : DE X C M Wx .v e we) (hl : DPO X C M Wx lo wl) (hh : DPO X C M Wx hi wh) : DE X C M Wx (.n 1) (.Subscript e (.Slice lo hi none p2) pos) (sliceLW we wl wh) := by
  obtain ⟨te, p, s⟩ := he.ex
  obtain ⟨tl, pl, sl⟩ := hl.ex
  obtain ⟨th, ph, sh⟩ := hh.ex
  refine ⟨_, pe_slice sl_list p pl ph, fun F H σ ρ r Qd Ed Q hw hq hx => ?_⟩
  refine s F H σ ρ r _ Ed _ hw (fun d v F1 H1 g1 i1 hw2 => ?_) hx
  refine sl F1 H1 σ ρ (r.gr g1) _ Ed _ hw2 (fun lo F2 H2 g2 hw3 => ?_) fun x cls dd F2 H2 g2 => hx x cls dd F2 H2 (g1.trans g2)
  have g12 := g1.trans g2
  refine sh F2 H2 σ ρ (r.gr g12) _ Ed _ hw3 (fun hi F3 H3 g3 hw4 => ?_) fun x cls dd F2 H2 g2 => hx x cls dd F2 H2 (g12.trans g2)
  have g13 := g12.trans g3
  cases d with
  | lst xs =>
    have hw4 : Qd (.lst (cutD xs lo hi)) := hw4
    have i3 : Is (gx X C) F3 (.lst xs) v := Is.mono (g2.trans g3).ff _ _ i1
    obtain ⟨a, vs, rfl, h1, h2⟩ := i3
    refine ⟨a, vs, rfl, .inl (.inl (hid_some (g3.fh _ _ h1)).2), fun p hp => ?_⟩
    exact fin_lst (G := gx X C) g13.fh g13.pool (fun d z F' H' g k q => hq d z F' H' (g13.trans g) (k.gr fun a ha => g13.back g13.pool a ha) q) (h2.cut lo hi) hw4 hp
  | scr ns =>
    have hw4 : Qd (.lst (cutD (ns.map .int) lo hi)) := hw4
    obtain ⟨a, rfl, h1⟩ : Is (gx X C) F1 (.scr ns) v := i1
    refine ⟨a, ns.map V.int, rfl, ((g2.trans g3).ff.trans (g13.fh.trans hid_ex)).sl h1, fun p hp => ?_⟩
    exact fin_lst (G := gx X C) g13.fh g13.pool (fun d z F' H' g k q => hq d z F' H' (g13.trans g) (k.gr fun a ha => g13.back g13.pool a ha) q) ((ints_is ns).cut lo hi) hw4 hp
  | _ => cases hw4

/-! ### calls of built-in functions with one argument -/
theorem se_cb1 {k1 k : Kd} (h1 : k1.isN = false) {r : List V → Hp → VK → Prop} {f : D → W D} (hs : UnS G k1 k (fun v H Q => r [v] H Q) f) (hG : G.pl = C.pl) {te : TE} {we : Env → W D} (he : SE G C M Wx k1 te we) : SE G C M Wx k (tCB r (L2.tCons te L2.tNil)) (unW f we) := by
  intro F H σ ρ s Qd Ed Q hw hq hx
  refine he F H σ ρ s _ Ed _ hw (fun d v F1 H1 g1 i1 hw2 => ?_) hx
  refine hs F1 H1 (by rw [hG]; exact g1.fh) (by rw [hG]; exact g1.pool) d v (KIn.of h1 i1) Qd Ed Q hw2 fun d3 z F3 H3 g3 k3 q => ?_
  rw [hG] at g3
  exact hq d3 z F3 H3 (g1.trans g3) (k3.gr fun a ha => g1.back g1.pool a ha) q
theorem de_b1 {id : String} {x : Str} {p : Pos} {e : Expr} {k1 k : Kd} {r : List V → Hp → VK → Prop} {f : D → W D} {we : Env → W D} (hc : CallR X (.builtin id) r) (hs : UnS (gx X C) k1 k (fun v H Q => r [v] H Q) f) (hg : Gl X x) (hm : X.mg x = none) (he : DE X C M Wx k1 e we)
    (h1 : k1.isN = false := by rfl) (hv : bootBuiltins x = some (.builtin id) := by decide +kernel) (hn : x ≠ "__name__" := by decide) (hdb : (x == ("__debug__" : Str)) = false := by decide)
    (hst : starEach [e] X.env = (false, eval e X.env) :: starEach [] X.env := by rfl) : DE X C M Wx k (.Call (.Name x p) [e] [] pos) (unW f we) := by
  obtain ⟨te, pe, se⟩ := he.ex
  exact ⟨_, pe_callB hc hg hm hv (pa_cons pe pa_nil hst) hn hdb hst rfl, se_cb1 h1 hs rfl se⟩
theorem de_t1 {id : String} {x : Str} {p : Pos} {e : Expr} {k1 k : Kd} {r : List V → Hp → VK → Prop} {f : D → W D} {we : Env → W D} (hc : CallR X (.type id) r) (hs : UnS (gx X C) k1 k (fun v H Q => r [v] H Q) f) (hg : Gl X x) (hm : X.mg x = none) (he : DE X C M Wx k1 e we)
    (h1 : k1.isN = false := by rfl) (hv : bootBuiltins x = some (.type id) := by decide +kernel) (hn : x ≠ "__name__" := by decide) (hdb : (x == ("__debug__" : Str)) = false := by decide)
    (hst : starEach [e] X.env = (false, eval e X.env) :: starEach [] X.env := by rfl) : DE X C M Wx k (.Call (.Name x p) [e] [] pos) (unW f we) := by
  obtain ⟨te, pe, se⟩ := he.ex
  exact ⟨_, pe_callTy hc hg hm hv (pa_cons pe pa_nil hst) hn hdb hst rfl, se_cb1 h1 hs rfl se⟩
end
end DL

/-! sorting tuples of which some are empty -/
namespace DLS
open PySem PySem.Calls PyProof.Rows PySem.W PySem.SeqAt
section
variable {prog : Program} {w : World} {A : Around} {E : Value → Shared → Prop} {s : Shared}
theorem call_tuple_lt {Q : Value → Shared → Prop} {l b : Addr} {items items2 : Array Value} {e r : Nat → Bool} (hl : s.heap.IsTuple l items) (hb : s.heap.IsTuple b items2)
    (he : ∀ j (h1 : j < items.size) (h2 : j < items2.size), EqAt A.in1 s items[j] items2[j] (e j)) (hr : ∀ j (h1 : j < items.size) (h2 : j < items2.size), e j = false → RcLt A.in1 s items[j] items2[j] (r j))
    (h : Q (.bool (firstLt e r (decide (items.size < items2.size)) (List.range (min items.size items2.size)))) s) : wpAny (model prog w) A (call (.builtin "tuple.__lt__") [.ref l, .ref b]) Q E s := by
  obtain ⟨⟨cls, dd, data, sl⟩, ho, hc, n, hd⟩ := id hl
  obtain ⟨⟨cls2, dd2, data2, sl2⟩, ho2, hc2, n2, hd2⟩ := id hb
  simp only at hc hd hc2 hd2
  subst hc hd hc2 hd2
  exact call_meets F.slot_tuple_lt ⟨_, ho, rfl⟩ F.entry_tuple_lt (F.args_tuple_lt_2 _ _) (tuple_ltAt l b items items2 n n2 dd dd2 sl sl2 e r) ⟨ho, ho2, he, hr, h⟩
theorem oneLt_tup {xs ys : List PyData} {a b : Value} {as bs : List Addr} {Q : Bool → Shared → Prop} (ra : Reads s.heap a (.tuple xs) as) (rb : Reads s.heap b (.tuple ys) bs) (hal : alikeAll xs ys = true)
    (hu : A.units + min (PyData.tuple xs).depth (PyData.tuple ys).depth < cLine) (hq : Q (dataLt (.tuple xs) (.tuple ys)) s) : wpAny (model prog w) A (oneLt' true a b) Q E s := by
  cases ra with
  | @tuple l o vs n _ as₁ h1 h2 h3 h4 =>
    cases rb with
    | @tuple l' o' vs' n' _ bs₁ k1 k2 k3 k4 =>
      have n1 : vs.size = xs.length := by simpa using ReadsAll.length _ _ _ h4
      have n2 : vs'.size = ys.length := by simpa using ReadsAll.length _ _ _ k4
      rw [dataLt_tuple, ← firstLt_toks xs ys hal, ← n1, ← n2] at hq
      rw [oneLt'_eq]
      simp only [if_true]
      refine wpAny_bind (wpAny_cRoomFor (room_here hu) ?_)
      refine wpAny_bind (wpAny_callSpecialIfBound?_slot (T := "tuple") ⟨_, h1, h2⟩ F.slot_tuple_lt (call_tuple_lt (e := pairEq xs ys) (r := fun j => dataLt (xs.getD j .none) (ys.getD j .none)) ⟨_, h1, h2, _, h3⟩ ⟨_, k1, k2, _, k3⟩ (fun j j1 j2 => ?_) (fun j j1 j2 hj => ?_) ?_))
      · have := eqAt_alikeAll xs ys A.in1 s vs.toList vs'.toList _ _ h4 k4 hal (room_in hu) j (by simpa using j1) (by simpa using j2)
        simpa using this
      · have := rcLt_alikeAll xs ys A.in1 s vs.toList vs'.toList _ _ h4 k4 hal (room_in hu) j (by simpa using j1) (by simpa using j2) hj
        simpa using this
      · exact wpAny_truthy_bool hq
theorem firsts_tups : ∀ {vs : List Value} {ds : List PyData}, EachIs (fun v d => ∃ as, Reads s.heap v d as) vs ds → (∀ d, d ∈ ds → ∃ xs, d = .tuple xs) →
    ∃ fs : List (Option Value), (∀ (A : Around) (E : Value → Shared → Prop) (Q : List (Option Value) → Shared → Prop), Q fs s → wpAny (model prog w) A (vs.mapM firstOfTuple') Q E s) ∧ fs.length = vs.length ∧ EachIs (fun f d => (f = none ↔ d = .tuple [])) fs ds
  | _, _, .nil, _ => ⟨[], fun A E Q h => by rw [List.mapM_nil]; exact wpAny_pure h, rfl, .nil⟩
  | _, _, .cons (b := d) ⟨as, r⟩ t, ht => by
    obtain ⟨fs, h1, h2, h3⟩ := firsts_tups t fun d hd => ht d (List.mem_cons_of_mem _ hd)
    obtain ⟨xs, rfl⟩ := ht d (List.mem_cons_self ..)
    cases r with
    | @tuple a o vs n _ _ ho hc hd hr =>
      refine ⟨vs[0]? :: fs, fun A E Q h => ?_, by simp [h2], .cons ?_ h3⟩
      · rw [List.mapM_cons]
        refine wpAny_bind ?_
        rw [kas_first_eq]
        refine wpAny_bind (Looks.here (show Looks (model prog w) s.heap (typeOf (.ref a)) o.cls from (Looks.ld ho).andThen .now) ?_)
        rw [hc, if_neg (by first | decide | simp)]
        refine wpAny_bind (listItems_at ho hd (wpAny_pure ?_))
        exact wpAny_bind (h1 A E (fun bs s' => wpAny (model prog w) A (pure (vs[0]? :: bs)) Q E s') (wpAny_pure h))
      · have n1 : vs.size = xs.length := by simpa using ReadsAll.length _ _ _ hr
        constructor
        · intro e
          have : vs.size = 0 := by
            cases q : vs.size with
            | zero => rfl
            | succ k => rw [Array.getElem?_eq_getElem (by omega)] at e; cases e
          rw [this] at n1
          rw [List.length_eq_zero_iff.mp n1.symm]
        · intro e
          injection e with e
          subst e
          exact Array.getElem?_eq_none (by rw [n1]; simp)
theorem eachIs_head {α β : Type} {R : α → β → Prop} {fs : List α} {ds : List β} (h : EachIs R fs ds) : (fs = [] ∧ ds = []) ∨ ∃ f fr d dr, fs = f :: fr ∧ ds = d :: dr ∧ R f d ∧ EachIs R fr dr := by
  cases h with
  | nil => exact .inl ⟨rfl, rfl⟩
  | cons a b => exact .inr ⟨_, _, _, _, rfl, rfl, a, b⟩
theorem eachIs_right {α β : Type} {R : α → β → Prop} : ∀ {fs : List α} {ds : List β}, EachIs R fs ds → ∀ d ∈ ds, ∃ f ∈ fs, R f d
  | _, _, .nil, d, hd => by cases hd
  | _, _, .cons (a := a) r t, d, hd => by
    rcases List.mem_cons.mp hd with rfl | hd
    · exact ⟨a, by simp, r⟩
    · obtain ⟨f, hf, q⟩ := eachIs_right t d hd
      exact ⟨f, by simp [hf], q⟩
/-- .. can be sorted -/
theorem SortsAt.tuples {vs : List Value} {ds : List PyData} (e : EachIs (fun v d => ∃ as, Reads s.heap v d as) vs ds) (hal : AllAlike ds) (hk : ∀ d, d ∈ ds → ∃ xs, d = .tuple xs) (hu : ∀ d, d ∈ ds → A.units + d.depth < cLine) : SortsAt prog w A s (dataKind s.heap ds) vs := by
  have room : ∀ {d d' : PyData}, d ∈ ds → A.units + min d.depth d'.depth < cLine := fun {d d'} hd => Nat.lt_of_le_of_lt (Nat.add_le_add_left (Nat.min_le_left _ _) _) (hu d hd)
  by_cases hne : ∀ d, d ∈ ds → ∃ x r, d = .tuple (x :: r)
  · exact SortsAt.data e hal (.inl hne) hu
  · refine ⟨fun v hv => ?_, ?_⟩
    · obtain ⟨d, hd, as, r⟩ := e.left v hv
      exact ⟨_, dataKind_some hal hd r⟩
    · obtain ⟨fs, f1, f2, f3⟩ := firsts_tups (prog := prog) (w := w) e hk
      have hnone : ¬ (fs.toArray.all fun x => x.isSome) = true := by
        intro hall
        apply hne
        intro d hd
        obtain ⟨f, hf, hfd⟩ := eachIs_right f3 d hd
        have : f.isSome = true := by
          simp only [List.all_toArray, List.all_eq_true] at hall
          exact hall f hf
        obtain ⟨xs, rfl⟩ := hk d hd
        cases xs with
        | nil => rw [hfd.mpr rfl] at this; cases this
        | cons x r => exact ⟨x, r, rfl⟩
      have hT : ∀ v ∈ vs, Looks (model prog w) s.heap (typeOf v) (.type "tuple") := fun v hv => by
        obtain ⟨d, hd, as, r⟩ := e.left v hv
        obtain ⟨xs, rfl⟩ := hk d hd
        exact looks_reads r
      by_cases h0 : ((fs.toArray[0]?).bind id).isSome = true
      · refine ⟨general', ?_, fun h2 E Q hq => ?_⟩
        · intro E x y a b Q ha hb hq
          obtain ⟨d, as, hd, ra, rfl⟩ := dataKind_inv ha
          obtain ⟨d', as', hd', rb, rfl⟩ := dataKind_inv hb
          obtain ⟨xs, rfl⟩ := hk d hd
          exact oneLt_alike (f := false) (fun z => by cases z) ra rb (hal _ hd d' hd') (by intro z; cases z) (room hd) hq
        · rw [keyKind'_eq, List.mapM_toArray, map_eq_pure_bind]
          refine wpAny_bind (wpAny_bind (f1 _ _ _ (wpAny_pure ?_)))
          rw [if_neg hnone, if_pos h0]
          exact wpAny_pure hq
      · refine ⟨oneType', ?_, fun h2 E Q hq => ?_⟩
        · intro E x y a b Q ha hb hq
          obtain ⟨d, as, hd, ra, rfl⟩ := dataKind_inv ha
          obtain ⟨d', as', hd', rb, rfl⟩ := dataKind_inv hb
          obtain ⟨xs, rfl⟩ := hk d hd
          obtain ⟨ys, rfl⟩ := hk d' hd'
          rw [keyLt'_oneType]
          exact oneLt_tup ra rb (by simpa [alike] using hal _ hd _ hd') (room hd) hq
        · obtain ⟨v₁, v₂, rest, rfl⟩ : ∃ v₁ v₂ rest, vs = v₁ :: v₂ :: rest := by
            match vs, h2 with
            | [], h2 => simp at h2
            | [_], h2 => simp at h2
            | v₁ :: v₂ :: rest, _ => exact ⟨v₁, v₂, rest, rfl⟩
          rw [keyKind'_eq, List.mapM_toArray, map_eq_pure_bind]
          refine wpAny_bind (wpAny_bind (f1 _ _ _ (wpAny_pure ?_)))
          rw [if_neg hnone, if_neg h0]
          rw [oneTypeOnly'_eq, List.mapM_toArray, map_eq_pure_bind]
          refine wpAny_bind (wpAny_bind (wpAny_bind (kas_mapM (r := Value.type "tuple") _ (fun v hv Q' hq => (hT v hv).here hq) (wpAny_pure ?_))))
          have hall : ((List.map (fun _ => Value.type "tuple") (v₁ :: v₂ :: rest)).toArray.all fun x => x == Value.type "tuple") = true := by
            simp only [List.all_toArray, List.all_map, List.all_eq_true]
            intro _ _
            exact beq_self_eq_true _
          have h00 : ((List.map (fun _ => Value.type "tuple") (v₁ :: v₂ :: rest)).toArray)[0]? = some (Value.type "tuple") := by simp
          rw [h00]
          simp only [hall, if_true]
          exact wpAny_pure (wpAny_pure hq)
/-- what can be sorted: alike, all tuples or none a tuple, none None -/
def Sortable2 (ds : List PyData) : Prop := (∀ d, d ∈ ds → ∃ xs, d = .tuple xs) ∨ ∀ d, d ∈ ds → d ≠ .none ∧ ∀ xs, d ≠ .tuple xs
theorem SortsAt.data2 {vs : List Value} {ds : List PyData} (e : EachIs (fun v d => ∃ as, Reads s.heap v d as) vs ds) (hal : AllAlike ds) (hk : Sortable2 ds) (hu : ∀ d, d ∈ ds → A.units + d.depth < cLine) : SortsAt prog w A s (dataKind s.heap ds) vs := by
  rcases hk with hk | hk
  · exact SortsAt.tuples e hal hk hu
  · exact SortsAt.data e hal (.inr hk) hu
variable {β : Type} {vs : List Value} {bs : List β} {enc : β → PyData} {R : Value → β → Prop}
theorem sorted_data2 {l : Addr} {Q : Value → Shared → Prop} (hl : s.heap.IsList l vs.toArray) (e : EachIs R vs bs) (er : EachIs (fun v b => ∃ as, Reads s.heap v (enc b) as) vs bs) (hal : AllAlike (bs.map enc)) (hk : Sortable2 (bs.map enc)) (hL : bs.length ≤ sizeLine)
    (hu : ∀ b, b ∈ bs → A.units + 2 + (enc b).depth < cLine) (h : ∀ out, out.length = bs.length → EachIs R out (bs.mergeSort (dataLe false enc)) → Q (.ref (s.heap.objs.size + 1)) { s with heap := sortedAll s.heap vs (List.toArray out) }) :
    wpAny (model prog w) A (call (.builtin "sorted") [.ref l]) Q E s := by
  have er' : EachIs (fun v b => ∃ as, Reads (sortingHeap (copyHeap s.heap vs) (s.heap.objs.size + 1) vs) v (enc b) as) vs bs := er.mono fun _ _ ⟨as, r⟩ => ⟨as, PyProof.Rows.Reads.keeps (fun _ _ => sorting_copy_old) r⟩
  exact sorted_vals hl (SortsAt.data2 (s := { s with heap := sortingHeap (copyHeap s.heap vs) (s.heap.objs.size + 1) vs }) (each_map (R := fun v d => ∃ as, Reads (sortingHeap (copyHeap s.heap vs) (s.heap.objs.size + 1) vs) v d as) enc er') hal hk (bound_map hu)) (by rw [e.length]; exact hL)
    (h _ (by rw [sortVals_length false rfl]; exact e.length) (sortVals_data false e er' hal))
/-- sorted of anything that can be walked -/
theorem sorted_src {T : String} {r d : Addr} {n : Nat} {P : Nat → Value → Prop} {OK : Heap → Prop} {Q : Value → Shared → Prop} (K : KdlSrc prog w T r d n P OK) (hh : A.handled = none) (hok : OK s.heap) (hn : n ≤ sizeLine)
    (h : ∀ (h' : Heap) (tk : Nat) (vs : List Value), (∀ b o, s.heap.get? b = some o → h'.get? b = some o) → vs.length = n → (∀ (j : Nat) (v : Value), vs[j]? = some v → P j v) →
      wpAny (model prog w) A.in1 (call (.builtin "list.sort") [.ref h'.objs.size]) (fun _ s' => Q (.ref h'.objs.size) s') E { s with heap := h'.push { cls := .type "list", data := .seq vs.toArray }, toks := tk }) :
    wpAny (model prog w) A (call (.builtin "sorted") [.ref r]) Q E s := by
  refine call_function_entry kind_sorted plain_sorted entry_sorted (args_sorted1 _) ?_
  unfold Builtin.«sorted»
  refine wpAny_bind (m := checkCount "sorted" 1 1 _) (wpAny_pure ?_)
  refine wpAny_bind (kdu_collect (A := A.in1) K hh hok hn fun h' tk acc hk hacc => ?_)
  have hl : acc.toList.length = n := by rw [Array.length_toList]; exact hacc.1
  refine wpAny_bind (wpAny_newList ?_ (by rw [hl]; exact hn))
  have hg := h h' tk acc.toList hk hl (fun j v e => hacc.2 j v (by rw [← Array.getElem?_toList]; exact e))
  refine wpAny_bind (wpAny_holding (wpAny_mono hg (fun _ s' x => ?_) fun _ _ e => e))
  exact wpAny_pure ⟨_, rfl, x⟩
/-- sorted of a tuple -/
theorem sorted_tup {r : Addr} {o : Obj} {items : Array Value} {k : Nat} {Q : Value → Shared → Prop} (ho : s.heap.get? r = some o) (hc : o.cls = .type "tuple") (hd : o.data = .seq items k) (hn : items.size ≤ sizeLine)
    (h : ∀ (h' : Heap), (∀ b o, s.heap.get? b = some o → h'.get? b = some o) →
      wpAny (model prog w) A.in1 (call (.builtin "list.sort") [.ref h'.objs.size]) (fun _ s' => Q (.ref h'.objs.size) s') E { s with heap := h'.push { cls := .type "list", data := .seq items.toList.toArray } }) :
    wpAny (model prog w) A (call (.builtin "sorted") [.ref r]) Q E s := by
  refine call_function_entry kind_sorted plain_sorted entry_sorted (args_sorted1 _) ?_
  unfold Builtin.«sorted»
  refine wpAny_bind (m := checkCount "sorted" 1 1 _) (wpAny_pure ?_)
  refine wpAny_bind (wpAny_collect_seq (hsz := hn) r (.inr rfl) ho hc hd fun h' hk => ?_)
  refine wpAny_bind (wpAny_newList ?_ (by rw [Array.length_toList]; exact hn))
  have hg := h h' hk
  refine wpAny_bind (wpAny_holding (wpAny_mono hg (fun _ s' x => ?_) fun _ _ e => e))
  exact wpAny_pure ⟨_, rfl, x⟩
end
end DLS

namespace DL
open PySem PySem.Spec PyProof.Rows L2

/-! ### order, sorting -/
def leD (x y : D) : Bool := !PySem.W.dataLt (py y) (py x)
def sortD (xs : List D) : List D := xs.mergeSort leD
def alikeD (x y : D) : Bool := PySem.W.alike (py x) (py y)
def isTup : D → Bool | .tup _ => true | _ => false
def isAtom : D → Bool | .int _ => true | .str _ => true | .bl _ => true | .lst _ => true | _ => false
def sortOk (xs : List D) : Bool := xs.all (plain 50) && xs.all (fun x => xs.all fun y => alikeD x y) && (xs.all isTup || xs.all isAtom)
/-- the keys of a dict as data -/
def kD : Key → D
  | .inl i => .int i
  | .inr s => .str s
def kT (k : List Key) : D := .tup (k.map kD)
def upL (k : Kd) (ds : List D) : Prop := k = .v ∨ imL ds = true
section
variable {X : Cx} {C : Cf} {M : List Md} {Wx : WX} {pos : Pos} {G : Gx}
theorem KIn.upL {F H : Hp} (fh : Ex F (hid G.pl H)) (po : PoolOk G.pl H) {k : Kd} {ds : List D} {v : V} (u : DL.upL k ds) (h : KIn G F H k (.lst ds) v) : ∃ a vs F', v = .ref a ∧ H a = some (.lst vs) ∧ Gr G.pl F H F' H ∧ IsL G F' ds vs := by
  cases k with
  | v =>
    obtain ⟨a, vs, rfl, h1, h2⟩ := h
    exact ⟨a, vs, F, rfl, (hid_some (fh _ _ h1)).2, Gr.refl fh po, h2⟩
  | r =>
    rcases u with u | u
    · cases u
    · obtain ⟨a, vs, rfl, h1, h2⟩ := h
      exact ⟨a, vs, tps F H, rfl, (hid_some h1).2, Gr.tps fh po, IsL.im (fun a xs e => by
        unfold DL.tps
        have e' := (hid_some e).2
        cases e2 : F a with
        | none => simp [e']
        | some o =>
          have := (hid_some (fh a o e2)).2
          rw [e'] at this
          cases this
          rfl) ds vs u h2⟩
  | n n => exact h.elim
theorem KIn.tupS {F H : Hp} (fh : Ex F (hid G.pl H)) {k : Kd} {ds : List D} {v : V} (h : KIn G F H k (.tup ds) v) : ∃ a vs, v = .ref a ∧ H a = some (.tup vs) ∧ IsL G H ds vs := by
  obtain ⟨a, vs, rfl, h1, h2⟩ := h.at fh
  exact ⟨a, vs, rfl, h1, h2⟩
theorem KIn.lstS {F H : Hp} (fh : Ex F (hid G.pl H)) {k : Kd} {ds : List D} {v : V} (h : KIn G F H k (.lst ds) v) : ∃ a vs, v = .ref a ∧ H a = some (.lst vs) ∧ IsL G H ds vs := by
  obtain ⟨a, vs, rfl, h1, h2⟩ := h.at fh
  exact ⟨a, vs, rfl, h1, h2⟩

/-! ### len -/
def lenB : D → Option Int
  | .tup xs => some xs.length
  | .lst xs => some xs.length
  | .str s => if s.length ≤ sizeLine then some s.length else none
  | .dct ks _ => some ks.length
  | .dtt ks _ => some ks.length
  | .scr ns => some ns.length
  | _ => none
def lenW : D → W D := fun x Q _ => match lenB x with | some i => Q (.int i) | none => False
def rLenA (K : PySem.W.Frag) : List V → Hp → VK → Prop := fun xs H Q => (∃ x n, xs = [x] ∧ LenV K x H n ∧ Q (.int n) H) ∨ (∃ a kvs, xs = [.ref a] ∧ Rd H a (.dK kvs) ∧ Q (.int kvs.length) H) ∨ ∃ (a : Addr) (kvs : List (List Key × V)), xs = [.ref a] ∧ Rd H a (.dT kvs) ∧ Q (.int kvs.length) H
theorem call_lenA : CallR X (.builtin "len") (rLenA X.K) := by
  intro pins s σ H xs us Q I r h
  rcases h with h | ⟨a, kvs, rfl, ha, q⟩ | ⟨a, kvs, rfl, ha, q⟩
  · exact call_len pins s σ H xs us Q I r h
  · obtain ⟨u, rfl, ru⟩ := vals1 r
    cases ru
    exact d_len I ha fun t s' I' => ⟨.int kvs.length, H, I', ⟨t, rfl⟩, q⟩
  · obtain ⟨u, rfl, ru⟩ := vals1 r
    cases ru
    obtain ⟨z, hd, ys, rel, dd⟩ := dt_rd I.hok ha
    have hl : kvs.length = ys.length := Paired.length rel
    refine call_len_dictH hd dd (by rw [← hl]; rw [sizeLine_eq] at z; omega) ?_
    rw [← hl]
    exact ⟨.int ((kvs.length : Nat) : Int), H, I.tok _, ⟨_, rfl⟩, q⟩
theorem uns_len {k1 : Kd} : UnS G k1 .v (fun v H Q => rLenA G.K [v] H Q) lenW := by
  intro F H fh po x v hx Qd Ed Q hw hq
  unfold lenW at hw
  split at hw
  · rename_i i e
    have fin := fin0 (.inl rfl) fh po hq (d := .int i) (fun _ => rfl) hw
    have hi := hx.at fh
    cases x with
    | tup xs =>
      cases e
      obtain ⟨a, vs, rfl, h1, h2⟩ := hi
      exact .inl ⟨_, vs.length, rfl, .inr ⟨vs, .inl (.inl h1), rfl⟩, by rw [h2.len]; exact fin⟩
    | lst xs =>
      cases e
      obtain ⟨a, vs, rfl, h1, h2⟩ := hi
      exact .inl ⟨_, vs.length, rfl, .inl ⟨vs, .inl (.inl h1), rfl⟩, by rw [h2.len]; exact fin⟩
    | str s =>
      have e : (if s.length ≤ sizeLine then some (s.length : Int) else none) = some i := e
      by_cases hs : s.length ≤ sizeLine
      · rw [if_pos hs] at e
        cases e
        rw [show v = .str s from hi]
        exact .inl ⟨_, s.length, rfl, ⟨hs, rfl⟩, fin⟩
      · rw [if_neg hs] at e; cases e
    | dct ks ds =>
      cases e
      obtain ⟨a, vs, rfl, h1, h2, h3⟩ := hi
      subst h2
      exact .inr (.inl ⟨a, vs, rfl, h1, by simpa using fin⟩)
    | dtt ks ds =>
      cases e
      obtain ⟨a, vs, rfl, h1, h2, h3⟩ := hi
      subst h2
      exact .inr (.inr ⟨a, vs, rfl, h1, by simpa using fin⟩)
    | scr ns =>
      cases e
      obtain ⟨a, rfl, h1⟩ := hi
      exact .inl ⟨_, ns.length, rfl, .inl ⟨_, h1, by simp⟩, fin⟩
    | _ => cases e
  · cases hw

/-! ### sum, all, any, int, abs -/
def intsOf : List D → Option (List Int)
  | [] => some []
  | .int i :: r => (intsOf r).map (i :: ·)
  | _ => none
def blsOf : List D → Option (List Bool)
  | [] => some []
  | .bl i :: r => (blsOf r).map (i :: ·)
  | _ => none
theorem intsOf_v {H : Hp} : ∀ {ds : List D} {vs : List V} {ns : List Int}, IsL G H ds vs → intsOf ds = some ns → vs = ns.map V.int
  | [], _, _, h, e => by rw [show _ = [] from h]; cases e; rfl
  | d :: ds, _, ns, h, e => by
    obtain ⟨v, r, rfl, h1, h2⟩ := h
    cases d with
    | int i =>
      cases e1 : intsOf ds with
      | none => rw [intsOf, e1] at e; cases e
      | some ms =>
        rw [intsOf, e1] at e
        cases e
        rw [intsOf_v h2 e1, show v = .int i from h1]
        rfl
    | _ => cases e
theorem blsOf_v {H : Hp} : ∀ {ds : List D} {vs : List V} {ns : List Bool}, IsL G H ds vs → blsOf ds = some ns → vs = ns.map V.bl
  | [], _, _, h, e => by rw [show _ = [] from h]; cases e; rfl
  | d :: ds, _, ns, h, e => by
    obtain ⟨v, r, rfl, h1, h2⟩ := h
    cases d with
    | bl i =>
      cases e1 : blsOf ds with
      | none => rw [blsOf, e1] at e; cases e
      | some ms =>
        rw [blsOf, e1] at e
        cases e
        rw [blsOf_v h2 e1, show v = .bl i from h1]
        rfl
    | _ => cases e
def sumW : D → W D := fun x Q _ => match x with | .lst xs => (match intsOf xs with | some ns => Q (.int ns.sum) | none => False) | _ => False
def allW : D → W D := fun x Q _ => match x with | .lst xs => (match blsOf xs with | some ns => Q (.bl (ns.all id)) | none => False) | _ => False
def anyW : D → W D := fun x Q _ => match x with | .lst xs => (match blsOf xs with | some ns => Q (.bl (ns.any id)) | none => False) | _ => False
theorem uns_sum {k1 : Kd} : UnS G k1 .v (fun v H Q => rSum G.K [v] H Q) sumW := by
  intro F H fh po x v hx Qd Ed Q hw hq
  cases x <;> try exact hw.elim
  rename_i xs
  unfold sumW at hw
  simp only at hw
  split at hw
  · rename_i ns e
    obtain ⟨a, vs, rfl, h1, h2⟩ := hx.lstS fh
    exact ⟨a, ns, rfl, .inl (.inl (by rw [← intsOf_v h2 e]; exact h1)), fin0 (.inl rfl) fh po hq (d := .int _) (fun _ => rfl) hw⟩
  · cases hw
theorem uns_all {k1 : Kd} : UnS G k1 .v (fun v H Q => rAll G.K [v] H Q) allW := by
  intro F H fh po x v hx Qd Ed Q hw hq
  cases x <;> try exact hw.elim
  rename_i xs
  unfold allW at hw
  simp only at hw
  split at hw
  · rename_i ns e
    obtain ⟨a, vs, rfl, h1, h2⟩ := hx.lstS fh
    exact ⟨a, ns, rfl, .inl (.inl (by rw [← blsOf_v h2 e]; exact h1)), fin0 (.inl rfl) fh po hq (d := .bl _) (fun _ => rfl) hw⟩
  · cases hw
theorem uns_any {k1 : Kd} : UnS G k1 .v (fun v H Q => rAny G.K [v] H Q) anyW := by
  intro F H fh po x v hx Qd Ed Q hw hq
  cases x <;> try exact hw.elim
  rename_i xs
  unfold anyW at hw
  simp only at hw
  split at hw
  · rename_i ns e
    obtain ⟨a, vs, rfl, h1, h2⟩ := hx.lstS fh
    exact ⟨a, ns, rfl, .inl (.inl (by rw [← blsOf_v h2 e]; exact h1)), fin0 (.inl rfl) fh po hq (d := .bl _) (fun _ => rfl) hw⟩
  · cases hw
def intW : D → W D := fun x Q _ => match x with | .int i => Q (.int i) | .bl b => Q (.int (if b then 1 else 0)) | _ => False
def absW : D → W D := fun x Q _ => match x with | .int i => Q (.int (if i < 0 then -i else i)) | _ => False
theorem uns_int {k1 : Kd} : UnS G k1 .v (fun v H Q => (∃ i, [v] = [V.int i] ∧ Q (.int i) H) ∨ ∃ k, [v] = [V.bl k] ∧ Q (.int (if k then 1 else 0)) H) intW := by
  intro F H fh po x v hx Qd Ed Q hw hq
  cases x <;> try exact hw.elim
  · rename_i b
    exact .inr ⟨b, by rw [show v = .bl b from hx.at fh], fin0 (.inl rfl) fh po hq (d := .int _) (fun _ => rfl) hw⟩
  · exact .inl ⟨_, by rw [hx.int], fin0 (.inl rfl) fh po hq (d := .int _) (fun _ => rfl) hw⟩
theorem uns_abs {k1 : Kd} : UnS G k1 .v (fun v H Q => ∃ i, [v] = [V.int i] ∧ Q (.int (if i < 0 then -i else i)) H) absW := by
  intro F H fh po x v hx Qd Ed Q hw hq
  cases x <;> try exact hw.elim
  exact ⟨_, by rw [hx.int], fin0 (.inl rfl) fh po hq (d := .int _) (fun _ => rfl) hw⟩

/-! ### tuple(..), list(..) -/
def tupOfW (k : Kd) : D → W D := fun x Q _ => match x with | .lst xs => upL k xs ∧ Q (.tup xs) | .tup xs => upOk k (.tup xs) ∧ Q (.tup xs) | _ => False
theorem uns_tup {k1 : Kd} : UnS G k1 .v (fun v H Q => ∃ p ys, [v] = [V.ref p] ∧ ((SqL G.K H p ys ∧ ∀ l, H l = none → Q (.ref l) (upd H l (.tup ys))) ∨ (SqT G.K H p ys ∧ Q (.ref p) H))) (tupOfW k1) := by
  intro F H fh po x v hx Qd Ed Q hw hq
  cases x <;> try exact hw.elim
  · rename_i xs
    obtain ⟨F', g, i⟩ := hx.up fh po hw.1
    obtain ⟨a, vs, rfl, h1, h2⟩ := i
    exact ⟨a, vs, rfl, .inr ⟨.inl (.inl ((g.fh.trans hid_ex) _ _ h1)), hq (.tup xs) _ F' H g (show Is G F' (.tup xs) _ from ⟨a, vs, rfl, h1, h2⟩) hw.2⟩⟩
  · obtain ⟨a, vs, F', rfl, h1, g, h2⟩ := hx.upL fh po hw.1
    exact ⟨a, vs, rfl, .inl ⟨.inl (.inl h1), fun l hl => fin_tup g.fh po (fun d z F2 H2 g2 k q => hq d z F2 H2 (g.trans g2) k q) h2 hw.2 hl⟩⟩
def lstOfW (k : Kd) : D → W D := fun x Q _ => match x with | .lst xs => upL k xs ∧ Q (.lst xs) | .tup xs => upOk k (.tup xs) ∧ Q (.lst xs) | .dct ks _ => Q (.lst (ks.map kD)) | _ => False
def rListA (K : PySem.W.Frag) : List V → Hp → VK → Prop := fun xs H Q => (∃ p ys, xs = [.ref p] ∧ (SqL K H p ys ∨ SqT K H p ys) ∧ ∀ l, H l = none → Q (.ref l) (upd H l (.lst ys))) ∨
  ∃ p kvs, xs = [.ref p] ∧ Rd H p (.dK kvs) ∧ ∀ q, H q = none → Q (.ref q) (upd H q (.lst (kvs.map fun kv => kV kv.1)))
theorem call_listA (hc : X.calm = true) : CallR X (.type "list") (rListA X.K) := by
  intro pins s σ H xs us Q I r h
  rcases h with h | h
  · exact call_list_of pins s σ H xs us Q I r h
  obtain ⟨p, kvs, e, hk, q⟩ := h
  subst e
  obtain ⟨u, eu, rx⟩ := vals1 r
  subst eu
  obtain rfl : u = Value.ref p := rx
  obtain ⟨z, lo, vs, rk, hd⟩ := dk_rd I.hok hk
  obtain ⟨ep, hat⟩ := hd.dictAt
  have hl : kvs.length = vs.length := Paired.length rk
  refine PySem.W.kdl_call (PySem.W.kdl_dict (knd := mixKind X.prog X.w) (kvs := vs) (ep := ep) lo) (I.ok.hd hc) hat (by rw [← hl]; exact z) fun h' tk acc' c' hkeep hS hacc => ?_
  refine ⟨.ref s.heap.objs.size, upd H s.heap.objs.size (.lst (kvs.map fun kv => kV kv.1)), I.laid hkeep (Nat.le_refl _) (show ObjOk X.prog X.w _ _ _ (.lst (kvs.map fun kv => kV kv.1)) from ⟨?_, acc'.toList, c', ?_, ?_⟩), rfl, q _ (I.hok.fresh (Nat.le_refl _))⟩
  · rw [List.length_map]; exact z
  · have el : acc'.toList.length = acc'.size := by simp
    refine vals_of_at (by rw [List.length_map, el, hacc.1, hl]) fun j x w h1 h2 => ?_
    obtain ⟨k, y, hky, hi⟩ := hacc.2 j w (by rw [← Array.getElem?_toList]; exact h2)
    have e1 : (kvs.map (·.1))[j]? = some k := by
      rw [KV.keys rk, List.getElem?_map, hky] <;> rfl
    have e2 : (kvs.map fun kv => kV kv.1)[j]? = some (kV k) := by
      have e3 : (kvs.map fun kv => kV kv.1) = (kvs.map (·.1)).map kV := by rw [List.map_map] <;> rfl
      rw [e3, List.getElem?_map, e1] <;> rfl
    rw [e2] at h1
    cases h1
    exact keyIs_rel hi
  · rw [Array.toArray_toList]; exact hS
theorem keys_is {H : Hp} : ∀ (ks : List Key), IsL G H (ks.map kD) (ks.map kV)
  | [] => rfl
  | k :: ks => ⟨kV k, ks.map kV, rfl, by cases k <;> exact rfl, keys_is ks⟩
theorem uns_lst {k1 : Kd} : UnS G k1 (.n 1) (fun v H Q => rListA G.K [v] H Q) (lstOfW k1) := by
  intro F H fh po x v hx Qd Ed Q hw hq
  cases x <;> try exact hw.elim
  · obtain ⟨F', g, i⟩ := hx.up fh po hw.1
    obtain ⟨a, vs, rfl, h1, h2⟩ := i
    exact .inl ⟨a, vs, rfl, .inr (.inl (.inl ((g.fh.trans hid_ex) _ _ h1))), fun l hl => fin_lst g.fh po (fun d z F2 H2 g2 k q => hq d z F2 H2 (g.trans g2) k q) h2 hw.2 hl⟩
  · obtain ⟨a, vs, F', rfl, h1, g, h2⟩ := hx.upL fh po hw.1
    exact .inl ⟨a, vs, rfl, .inl (.inl (.inl h1)), fun l hl => fin_lst g.fh po (fun d z F2 H2 g2 k q => hq d z F2 H2 (g.trans g2) k q) h2 hw.2 hl⟩
  · rename_i ks ds
    obtain ⟨a, vs, rfl, h1, h2, h3⟩ := hx.at fh
    refine .inr ⟨a, vs, rfl, h1, fun l hl => ?_⟩
    have e : (vs.map fun kv => kV kv.1) = ks.map kV := by rw [← h2, List.map_map]; rfl
    rw [e]
    exact fin_lst fh po hq (keys_is ks) hw hl

/-! ### sorted -/
theorem sortOk_alike {xs : List D} (h : sortOk xs = true) : PySem.W.AllAlike (xs.map py) := by
  simp only [sortOk, Bool.and_eq_true] at h
  intro d hd d' hd'
  obtain ⟨x, hx, rfl⟩ := List.mem_map.mp hd
  obtain ⟨y, hy, rfl⟩ := List.mem_map.mp hd'
  exact List.all_eq_true.mp (List.all_eq_true.mp h.1.2 x hx) y hy
theorem sortOk_able {xs : List D} (h : sortOk xs = true) : DLS.Sortable2 (xs.map py) := by
  simp only [sortOk, Bool.and_eq_true, Bool.or_eq_true] at h
  rcases h.2 with h | h
  · refine .inl fun d hd => ?_
    obtain ⟨x, hx, rfl⟩ := List.mem_map.mp hd
    have := List.all_eq_true.mp h x hx
    cases x <;> simp [isTup] at this
    exact ⟨_, rfl⟩
  · refine .inr fun d hd => ?_
    obtain ⟨x, hx, rfl⟩ := List.mem_map.mp hd
    have := List.all_eq_true.mp h x hx
    cases x <;> simp [isAtom] at this <;> exact ⟨(by intro z; cases z), (by intro xs z; cases z)⟩
theorem sortOk_plain {xs : List D} (h : sortOk xs = true) : ∀ x ∈ xs, plain 50 x = true := by
  simp only [sortOk, Bool.and_eq_true] at h
  exact List.all_eq_true.mp h.1.1
def leP (a b : D × V) : Bool := leD a.1 b.1
def rSortD (K : PySem.W.Frag) : List V → Hp → VK → Prop := fun xs H Q => ∃ (a : Addr) (ps : List (D × V)), xs = [.ref a] ∧ SqL K H a (ps.map Prod.snd) ∧ (∀ p ∈ ps, Dp K H p.2 (py p.1)) ∧ sortOk (ps.map Prod.fst) = true ∧
  ∀ p, H p = none → Q (.ref p) (upd H p (.lst ((ps.mergeSort leP).map Prod.snd)))
theorem each_vals : ∀ {ps : List (D × V)} {its : List Value}, Vals (ps.map Prod.snd) its → PySem.W.EachIs (fun (v : Value) (p : D × V) => RelV p.2 v) its ps
  | [], _, h => by cases h; exact .nil
  | p :: ps, _, h => by
    have h : Vals (p.2 :: ps.map Prod.snd) _ := h
    cases h with
    | cons a b => exact .cons a (each_vals b)
theorem vals_each : ∀ {ps : List (D × V)} {its : List Value}, PySem.W.EachIs (fun (v : Value) (p : D × V) => RelV p.2 v) its ps → Vals (ps.map Prod.snd) its
  | _, _, .nil => .nil
  | _, _, .cons a b => .cons a (vals_each b)
theorem cr_sortD (hu : X.A.units + 62 < cLine) : CallR X (.builtin "sorted") (rSortD X.K) := by
  intro pins s σ H xs us Q I r h
  obtain ⟨a, ps, rfl, hs, hd, ok, q⟩ := h
  obtain ⟨its, rv, hl, hz⟩ := I.list hs
  rw [Vals.ref1 r]
  have e := each_vals rv
  rw [List.length_map] at hz
  refine DLS.sorted_data2 (enc := fun p : D × V => py p.1) hl.isList e ((PySem.W.each_mem e).mono fun v p hp => Dp.reads I _ _ _ (hd p hp.2) hp.1) ?_ ?_ hz (fun p hp => ?_) fun out h1 h2 => ?_
  · have := sortOk_alike ok; rw [List.map_map] at this; exact this
  · have := sortOk_able ok; rw [List.map_map] at this; exact this
  · have := (plain_lay 50 p.1 (sortOk_plain ok _ (List.mem_map_of_mem hp))).2
    omega
  · obtain ⟨ep, he'⟩ := PyProof.Rows.sortedAll_at s.heap its out.toArray
    have hlen : ((ps.mergeSort leP).map Prod.snd).length ≤ sizeLine := by rw [List.length_map, List.length_mergeSort]; exact hz
    exact ⟨.ref _, upd H (s.heap.objs.size + 1) (.lst ((ps.mergeSort leP).map Prod.snd)), I.laid (t' := s.toks) (fun _ _ => PyProof.Rows.sortedAll_old) (Nat.le_succ _) ⟨hlen, out, ep, vals_each h2, he'⟩, rfl, q _ (I.hok.fresh (Nat.le_succ _))⟩
/-- sorted of a dict: of its keys -/
def rSortK : List V → Hp → VK → Prop := fun xs H Q => ∃ (a : Addr) (kvs : List (Key × V)), xs = [.ref a] ∧ Rd H a (.dK kvs) ∧ sortOk (kvs.map fun p => kD p.1) = true ∧
  ∀ p, H p = none → Q (.ref p) (upd H p (.lst (((kvs.map fun q => (kD q.1, kV q.1)).mergeSort leP).map Prod.snd)))
theorem cr_sortK (hc : X.calm = true) (hu : X.A.units + 62 < cLine) : CallR X (.builtin "sorted") rSortK := by
  intro pins s σ H xs us Q I r h
  obtain ⟨a, kvs, rfl, hk, ok, q⟩ := h
  rw [Vals.ref1 r]
  obtain ⟨z, lo, vs, rk, hd⟩ := dk_rd I.hok hk
  obtain ⟨ep, hat⟩ := hd.dictAt
  have hl : kvs.length = vs.length := Paired.length rk
  refine DLS.sorted_src (PySem.W.kdl_dict (knd := mixKind X.prog X.w) (kvs := vs) (ep := ep) lo) (I.ok.hd hc) hat (by rw [← hl]; exact z) fun h' tk us hkeep hlen hat' => ?_
  have e : PySem.W.EachIs (fun (v : Value) (p : D × V) => RelV p.2 v) us (kvs.map fun q => (kD q.1, kV q.1)) := by
    refine each_vals (vals_of_at (by simp [hlen, hl]) fun j x u h1 h2 => ?_)
    obtain ⟨k, y, hky, hi⟩ := hat' j u h2
    have e1 : (kvs.map (·.1))[j]? = some k := by rw [KV.keys rk, List.getElem?_map, hky] <;> rfl
    have e2 : ((kvs.map fun q => (kD q.1, kV q.1)).map Prod.snd) = (kvs.map (·.1)).map kV := by rw [List.map_map, List.map_map]; rfl
    rw [e2, List.getElem?_map, e1] at h1
    cases h1
    exact keyIs_rel hi
  have hob : (h'.push { cls := .type "list", data := .seq us.toArray }).get? h'.objs.size = some (seqObj "list" us.toArray 0) := Heap.get?_push_size _ rfl
  have er : PySem.W.EachIs (fun v (b : D × V) => ∃ as, Reads (PySem.W.sortingHeap (h'.push { cls := .type "list", data := .seq us.toArray }) h'.objs.size us) v (py b.1) as) us (kvs.map fun q => (kD q.1, kV q.1)) := by
    refine (PySem.W.each_mem e).mono fun v p hp => ?_
    obtain ⟨q, hq, rfl⟩ := List.mem_map.mp hp.2
    obtain ⟨k, w⟩ := q
    cases k with
    | inl i => obtain ⟨t, rfl⟩ := (show ∃ t, v = Value.int i t from hp.1); exact ⟨_, .int _ _⟩
    | inr x => obtain ⟨t, rfl⟩ := (show ∃ t, v = Value.str x t from hp.1); exact ⟨_, .str _ _⟩
  have hal : PySem.W.AllAlike ((kvs.map fun q => (kD q.1, kV q.1)).map fun p : D × V => py p.1) := by
    have := sortOk_alike ok; rw [List.map_map] at this ⊢; exact this
  have hab : DLS.Sortable2 ((kvs.map fun q => (kD q.1, kV q.1)).map fun p : D × V => py p.1) := by
    have := sortOk_able ok; rw [List.map_map] at this ⊢; exact this
  have hlu : us.length ≤ sizeLine := by rw [hlen, ← hl]; exact z
  refine wpAny_call_entry PyProof.Rows.slot_list_sort ⟨_, hob, rfl⟩ PyProof.Rows.entry_list_sort
    (PySem.W.list_sort_vals hob (DLS.SortsAt.data2 (s := { s with heap := PySem.W.sortingHeap (h'.push { cls := .type "list", data := .seq us.toArray }) h'.objs.size us, toks := tk }) (PySem.W.each_map (R := fun v d => ∃ as, Reads (PySem.W.sortingHeap (h'.push { cls := .type "list", data := .seq us.toArray }) h'.objs.size us) v d as) (fun p : D × V => py p.1) er) hal hab fun d hd => ?_) hlu ⟨.none, rfl, ?_⟩) (PyProof.Rows.args_list_sort _)
  · obtain ⟨p, hp, rfl⟩ := List.mem_map.mp hd
    obtain ⟨q, hq, rfl⟩ := List.mem_map.mp hp
    obtain ⟨k, w⟩ := q
    have : (py (kD k)).depth = 0 := by cases k <;> simp [kD, py, PyData.depth]
    show X.A.in1.in1.units + (py (kD k)).depth < cLine
    rw [this]
    show X.A.units + 1 + 1 + 0 < cLine
    omega
  · have e2 := PySem.W.sortVals_data (h' := PySem.W.sortingHeap (h'.push { cls := .type "list", data := .seq us.toArray }) h'.objs.size us) (R := fun (v : Value) (p : D × V) => RelV p.2 v) (enc := fun p : D × V => py p.1) false e er hal
    obtain ⟨ep2, he'⟩ := PyProof.Rows.sortedHeap_at (vs := us) (out := (PySem.W.sortVals (PySem.W.dataKind (PySem.W.sortingHeap (h'.push { cls := .type "list", data := .seq us.toArray }) h'.objs.size us) ((kvs.map fun q => (kD q.1, kV q.1)).map fun p : D × V => py p.1)) false us us).toArray) hob
    have I' := I.kept (t' := tk) hkeep
    refine ⟨.ref h'.objs.size, upd H h'.objs.size (.lst (((kvs.map fun q => (kD q.1, kV q.1)).mergeSort leP).map Prod.snd)), I'.laid (t' := tk) (fun b o hb => ?_) (Nat.le_refl _) ⟨?_, _, ep2, vals_each e2, he'⟩, rfl, q _ (I'.hok.fresh (Nat.le_refl _))⟩
    · have hb' : h'.get? b = some o := hb
      have hlt := Heap.lt_size hb'
      have hb2 : (h'.push { cls := .type "list", data := .seq us.toArray }).get? b = some o := Heap.get?_push_of_some _ hb'
      rw [PyProof.Rows.sortedHeap_old (Nat.ne_of_lt hlt) (Heap.lt_size hb2)]
      exact hb2
    · rw [List.length_map, List.length_mergeSort, List.length_map]; exact z
/-- sorted of a tuple -/
def rSortT (K : PySem.W.Frag) : List V → Hp → VK → Prop := fun xs H Q => ∃ (a : Addr) (ps : List (D × V)), xs = [.ref a] ∧ SqT K H a (ps.map Prod.snd) ∧ (∀ p ∈ ps, Dp K H p.2 (py p.1)) ∧ sortOk (ps.map Prod.fst) = true ∧
  ∀ p, H p = none → Q (.ref p) (upd H p (.lst ((ps.mergeSort leP).map Prod.snd)))
theorem cr_sortT (hu : X.A.units + 62 < cLine) : CallR X (.builtin "sorted") (rSortT X.K) := by
  intro pins s σ H xs us Q I r h
  obtain ⟨a, ps, rfl, hs, hdp, ok, q⟩ := h
  obtain ⟨its, rv, ⟨o, ho, hc, k, hd⟩, z⟩ := I.tuple hs
  rw [Vals.ref1 r]
  have hlen : its.length = ps.length := by have := Paired.length rv; rw [List.length_map] at this; exact this.symm
  rw [List.length_map] at z
  refine DLS.sorted_tup ho hc hd (by rw [List.size_toArray, hlen]; exact z) fun h' hkeep => ?_
  have eu : its.toArray.toList.toArray = its.toArray := by simp
  rw [eu]
  have e : PySem.W.EachIs (fun (v : Value) (p : D × V) => RelV p.2 v) its ps := each_vals rv
  have hob : (h'.push { cls := .type "list", data := .seq its.toArray }).get? h'.objs.size = some (seqObj "list" its.toArray 0) := Heap.get?_push_size _ rfl
  have up : ∀ b o, s.heap.get? b = some o → (PySem.W.sortingHeap (h'.push { cls := .type "list", data := .seq its.toArray }) h'.objs.size its).get? b = some o := fun b o hb => by
    have hb' := hkeep b o hb
    exact PySem.W.sortingHeap_old (Nat.ne_of_lt (Heap.lt_size hb')) (Heap.get?_push_of_some _ hb')
  have er : PySem.W.EachIs (fun v (b : D × V) => ∃ as, Reads (PySem.W.sortingHeap (h'.push { cls := .type "list", data := .seq its.toArray }) h'.objs.size its) v (py b.1) as) its ps :=
    (PySem.W.each_mem e).mono fun v p hp => by
      obtain ⟨as, r⟩ := Dp.reads I _ _ _ (hdp p hp.2) hp.1
      exact ⟨as, PyProof.Rows.Reads.keeps up r⟩
  have hal : PySem.W.AllAlike (ps.map fun p : D × V => py p.1) := by
    have := sortOk_alike ok; rw [List.map_map] at this; exact this
  have hab : DLS.Sortable2 (ps.map fun p : D × V => py p.1) := by
    have := sortOk_able ok; rw [List.map_map] at this; exact this
  have hlu : its.length ≤ sizeLine := by rw [hlen]; exact z
  refine wpAny_call_entry PyProof.Rows.slot_list_sort ⟨_, hob, rfl⟩ PyProof.Rows.entry_list_sort
    (PySem.W.list_sort_vals hob (DLS.SortsAt.data2 (s := { s with heap := PySem.W.sortingHeap (h'.push { cls := .type "list", data := .seq its.toArray }) h'.objs.size its }) (PySem.W.each_map (R := fun v d => ∃ as, Reads (PySem.W.sortingHeap (h'.push { cls := .type "list", data := .seq its.toArray }) h'.objs.size its) v d as) (fun p : D × V => py p.1) er) hal hab fun d hd => ?_) hlu ⟨.none, rfl, ?_⟩) (PyProof.Rows.args_list_sort _)
  · obtain ⟨p, hp, rfl⟩ := List.mem_map.mp hd
    have := (plain_lay 50 p.1 (sortOk_plain ok _ (List.mem_map_of_mem hp))).2
    show X.A.units + 1 + 1 + (py p.1).depth < cLine
    omega
  · have e2 := PySem.W.sortVals_data (h' := PySem.W.sortingHeap (h'.push { cls := .type "list", data := .seq its.toArray }) h'.objs.size its) (R := fun (v : Value) (p : D × V) => RelV p.2 v) (enc := fun p : D × V => py p.1) false e er hal
    obtain ⟨ep2, he'⟩ := PyProof.Rows.sortedHeap_at (vs := its) (out := (PySem.W.sortVals (PySem.W.dataKind (PySem.W.sortingHeap (h'.push { cls := .type "list", data := .seq its.toArray }) h'.objs.size its) (ps.map fun p : D × V => py p.1)) false its its).toArray) hob
    have I' := I.kept (t' := s.toks) hkeep
    refine ⟨.ref h'.objs.size, upd H h'.objs.size (.lst ((ps.mergeSort leP).map Prod.snd)), I'.laid (t' := s.toks) (fun b o hb => ?_) (Nat.le_refl _) ⟨?_, _, ep2, vals_each e2, he'⟩, rfl, q _ (I'.hok.fresh (Nat.le_refl _))⟩
    · have hb' : h'.get? b = some o := hb
      have hlt := Heap.lt_size hb'
      have hb2 : (h'.push { cls := .type "list", data := .seq its.toArray }).get? b = some o := Heap.get?_push_of_some _ hb'
      rw [PyProof.Rows.sortedHeap_old (Nat.ne_of_lt hlt) (Heap.lt_size hb2)]
      exact hb2
    · rw [List.length_map, List.length_mergeSort]; exact z
def sortW (k : Kd) : D → W D := fun x Q _ => match x with | .lst xs => upL k xs ∧ sortOk xs = true ∧ Q (.lst (sortD xs)) | .tup xs => upOk k (.tup xs) ∧ sortOk xs = true ∧ Q (.lst (sortD xs)) | .dct ks _ => sortOk (ks.map kD) = true ∧ Q (.lst (sortD (ks.map kD))) | _ => False
def rSortA (K : PySem.W.Frag) : List V → Hp → VK → Prop := fun xs H Q => (rSortD K xs H Q ∨ rSortT K xs H Q) ∨ rSortK xs H Q
theorem cr_sortA (hc : X.calm = true) (hu : X.A.units + 62 < cLine) : CallR X (.builtin "sorted") (rSortA X.K) := ((cr_sortD hu).or (cr_sortT hu)).or (cr_sortK hc hu)
theorem zip_is {H : Hp} : ∀ {ds : List D} {vs : List V}, IsL G H ds vs → (ds.zip vs).map Prod.fst = ds ∧ (ds.zip vs).map Prod.snd = vs ∧ ∀ p ∈ ds.zip vs, Is G H p.1 p.2
  | [], vs, h => by rw [show vs = [] from h]; exact ⟨rfl, rfl, by simp⟩
  | d :: ds, _, h => by
    obtain ⟨v, r, rfl, h1, h2⟩ := h
    obtain ⟨a, b, c⟩ := zip_is h2
    refine ⟨by simp [a], by simp [b], fun p hp => ?_⟩
    rcases List.mem_cons.mp hp with rfl | hp
    · exact h1
    · exact c p hp
theorem is_of_zip {H : Hp} : ∀ {ps : List (D × V)}, (∀ p ∈ ps, Is G H p.1 p.2) → IsL G H (ps.map Prod.fst) (ps.map Prod.snd)
  | [], _ => rfl
  | p :: ps, h => ⟨_, _, rfl, h p (by simp), is_of_zip fun q hq => h q (by simp [hq])⟩
theorem sort_fst (ps : List (D × V)) : (ps.mergeSort leP).map Prod.fst = sortD (ps.map Prod.fst) := List.map_mergeSort fun a _ b _ => rfl
theorem uns_sort {k1 : Kd} : UnS G k1 (.n 1) (fun v H Q => rSortA G.K [v] H Q) (sortW k1) := by
  intro F H fh po x v hx Qd Ed Q hw hq
  cases x <;> try exact hw.elim
  · rename_i ds
    obtain ⟨hup, ok, hw⟩ := hw
    obtain ⟨F', g, i⟩ := hx.up fh po hup
    obtain ⟨a, vs, rfl, h1, h2⟩ := i
    obtain ⟨z1, z2, z3⟩ := zip_is h2
    refine .inl (.inr ⟨a, ds.zip vs, rfl, (g.fh.trans hid_ex).st (by rw [z2]; exact h1.sq), fun p hp => ?_, by rw [z1]; exact ok, fun p hp => ?_⟩)
    · have hm : p.1 ∈ ds := by rw [← z1]; exact List.mem_map_of_mem hp
      exact Is.dp 50 p.1 p.2 (sortOk_plain ok _ hm) (Is.mono (g.fh.trans hid_ex) _ _ (z3 p hp))
    · have i3 := is_of_zip (G := G) (H := F') (ps := (ds.zip vs).mergeSort leP) fun p hp => z3 p ((List.mergeSort_perm _ _).mem_iff.mp hp)
      rw [sort_fst, z1] at i3
      exact fin_lst g.fh po (fun d z F2 H2 g2 k q => hq d z F2 H2 (g.trans g2) k q) i3 hw hp
  · rename_i ds
    obtain ⟨hup, ok, hw⟩ := hw
    obtain ⟨a, vs, F', rfl, h1, g, h2⟩ := hx.upL fh po hup
    obtain ⟨z1, z2, z3⟩ := zip_is h2
    refine .inl (.inl ⟨a, ds.zip vs, rfl, .inl (.inl (by rw [z2]; exact h1)), fun p hp => ?_, by rw [z1]; exact ok, fun p hp => ?_⟩)
    · have hm : p.1 ∈ ds := by rw [← z1]; exact List.mem_map_of_mem hp
      exact Is.dp 50 p.1 p.2 (sortOk_plain ok _ hm) (Is.mono (g.fh.trans hid_ex) _ _ (z3 p hp))
    · have i3 := is_of_zip (G := G) (H := F') (ps := (ds.zip vs).mergeSort leP) fun p hp => z3 p ((List.mergeSort_perm _ _).mem_iff.mp hp)
      rw [sort_fst, z1] at i3
      exact fin_lst g.fh po (fun d z F2 H2 g2 k q => hq d z F2 H2 (g.trans g2) k q) i3 hw hp
  · rename_i ks ds
    obtain ⟨ok, hw⟩ := hw
    obtain ⟨a, vs, rfl, h1, h2, h3⟩ := hx.at fh
    subst h2
    rw [List.map_map] at ok hw
    refine .inr ⟨a, vs, rfl, h1, ok, fun p hp => ?_⟩
    have i3 := is_of_zip (G := G) (H := F) (ps := (vs.map fun q => (kD q.1, kV q.1)).mergeSort leP) fun p hp => by
      obtain ⟨q, hq, rfl⟩ := List.mem_map.mp ((List.mergeSort_perm _ _).mem_iff.mp hp)
      obtain ⟨k, w⟩ := q
      cases k <;> exact rfl
    rw [sort_fst, List.map_map] at i3
    exact fin_lst fh po hq i3 hw hp

/-! ### isinstance, a built-in type -/
def tyN : D → Option String
  | .non => some "NoneType" | .bl _ => some "bool" | .int _ => some "int" | .str _ => some "str" | .tup _ => some "tuple" | .lst _ => some "list" | .dct _ _ => some "dict" | _ => none
def subT (a b : String) : Bool := a == b || (a == "bool" && b == "int")
def isiW (T : String) : D → W D := fun x Q _ => match tyN x with | some a => Q (.bl (subT a T)) | none => False
def SubOk (T : String) : Prop := ∀ d a, tyN d = some a → kitB a T = some (subT a T)
theorem sub_of {T : String} (h : (["NoneType", "bool", "int", "str", "tuple", "list", "dict"].all fun a => kitB a T == some (subT a T)) = true) : SubOk T := by
  intro d a e
  simp only [List.all_cons, List.all_nil, Bool.and_eq_true, beq_iff_eq] at h
  obtain ⟨h1, h2, h3, h4, h5, h6, h7, _⟩ := h
  cases d <;> simp only [tyN] at e <;> cases e <;> assumption
theorem is_ty {H : Hp} {d : D} {v : V} {a : String} (h : Is G H d v) (e : tyN d = some a) : TyX G.K H v (.type a) := by
  cases d with
  | non => cases e; rw [show v = .non from h]; exact .base .non
  | bl b => cases e; rw [show v = .bl b from h]; exact .base (.bl b)
  | int b => cases e; rw [show v = .int b from h]; exact .base (.int b)
  | str b => cases e; rw [show v = .str b from h]; exact .base (.str b)
  | tup b => cases e; obtain ⟨a, vs, rfl, h1, _⟩ := h; exact .base (.tup h1)
  | lst b => cases e; obtain ⟨a, vs, rfl, h1, _⟩ := h; exact .base (.lst h1)
  | dct b c =>
    cases e
    obtain ⟨a, vs, rfl, h1, _⟩ := h
    rcases h1 with h1 | ⟨o, h1⟩
    · exact .base (.dK h1)
    · exact .fDict h1
  | _ => cases e
theorem de_isi {T : String} {x : Str} {tx : Str} {p p2 : Pos} {e : Expr} {k1 : Kd} {we : Env → W D} (hT : SubOk T) (hg : Gl X x) (hm : X.mg x = none) (hg2 : Gl X tx) (hm2 : X.mg tx = none) (he : DE X C M Wx k1 e we)
    (h1 : k1.isN = false := by rfl) (hv : bootBuiltins x = some (.builtin "isinstance") := by decide +kernel) (hv2 : bootBuiltins tx = some (.type T) := by decide +kernel) (hn : x ≠ "__name__" := by decide) (hdb : (x == ("__debug__" : Str)) = false := by decide)
    (hn2 : tx ≠ "__name__" := by decide) (hdb2 : (tx == ("__debug__" : Str)) = false := by decide)
    (hst : starEach [e, .Name tx p2] X.env = (false, eval e X.env) :: starEach [.Name tx p2] X.env := by rfl) : DE X C M Wx .v (.Call (.Name x p) [e, .Name tx p2] [] pos) (unW (isiW T) we) := by
  obtain ⟨te, pe, se⟩ := he.ex
  refine ⟨_, pe_callB (call_isi) hg hm hv (pa_cons pe (pa_cons (pe_bltn hg2 hm2 hv2 (v := .ty T) rfl hn2 hdb2) pa_nil) hst) hn hdb hst rfl, fun F H σ ρ s Qd Ed Q hw hq hx => ?_⟩
  refine se F H σ ρ s _ Ed _ hw (fun d v F1 H1 g1 i1 hw2 => ?_) hx
  unfold isiW at hw2
  split at hw2
  · rename_i a e2
    have i2 := (KIn.of h1 i1).at (G := gx X C) g1.fh
    exact ⟨v, .ty T, .type a, .type T, subT a T, rfl, .ty T, is_ty i2 e2, kit_ty (hT d a e2), hq (.bl _) _ F1 H1 g1 rfl hw2⟩
  · cases hw2
theorem sub_int : SubOk "int" := sub_of (by decide +kernel)
theorem sub_bool : SubOk "bool" := sub_of (by decide +kernel)
theorem sub_str : SubOk "str" := sub_of (by decide +kernel)
theorem sub_tuple : SubOk "tuple" := sub_of (by decide +kernel)
theorem sub_list : SubOk "list" := sub_of (by decide +kernel)
theorem sub_dict : SubOk "dict" := sub_of (by decide +kernel)
end
end DL

/-! enumerate of a tuple -/
namespace PySem
open Sem (wp)
theorem DLmeets_enumerate_newB {v : Value} {o : Obj} {H : Heap → Prop} (B : Begins v o H) :
    Meets (Builtin.«enumerate.__new__» ⟨[.type "enumerate", v], []⟩) (fun _ R s => H s.heap ∧
      R (.ok (.ret (.ref (s.heap.push o).objs.size))) { s with heap := (s.heap.push o).push { cls := .type "enumerate", data := .fields #[.none, .bool false, .ref s.heap.objs.size, rawInt 0, .none, .none] } }) :=
  .of_wp fun prog w A R s h => by
    obtain ⟨hp, g, d, tk, os⟩ := s; obtain ⟨h1, h⟩ := h
    have hsub := sub_enumerate
    have q1 : ∀ {A' : Around} {E : Value → Shared → Prop} {Q : Value → Shared → Prop}, Q (.ref hp.objs.size) ⟨hp.push o, g, d, tk, os⟩ → wpAny (model prog w) A' (pyIter v) Q E ⟨hp, g, d, tk, os⟩ :=
      fun q => B.iter prog w _ _ ⟨hp, g, d, tk, os⟩ _ h1 q
    wp_walk using q1
    refine wpAny_stack_any fun st => wpAny_pure ?_
    split
    · rename_i c _ _ _ _ _
      cases (c == Value.type "enumerate")
      · wp_walk using q1
        exact ⟨_, rfl, h⟩
      · wp_walk using q1
        exact ⟨_, rfl, h⟩
    · wp_walk using q1
      exact ⟨_, rfl, h⟩
section
variable {prog : Program} {w : World} {A : Around} {E : Value → Shared → Prop} {s : Shared}
theorem DLenum_begins {v : Value} {o : Obj} {H : Heap → Prop} {Q : Value → Shared → Prop} (B : Begins v o H) (h1 : H s.heap)
    (h : ∀ h', IsEnum h' (s.heap.objs.size + 1) s.heap.objs.size 0 .none → h'.get? s.heap.objs.size = some o → h'.objs.size = s.heap.objs.size + 2 →
      (∀ b o, s.heap.get? b = some o → h'.get? b = some o) → Q (.ref (s.heap.objs.size + 1)) { s with heap := h' }) :
    wpAny (model prog w) A (call (.type "enumerate") [v]) Q E s := by
  refine callType_new F.called_enumerate (by decide) (F.typeCall_enumerate_1 _) (F.newCall_enumerate_1 _) (fun obj => F.args_object_init_2 obj _) F.entry_enumerate_new
    (DLmeets_enumerate_newB B) ⟨h1, ?_⟩
  have hz : (s.heap.push o).objs.size = s.heap.objs.size + 1 := Heap.size_push ..
  show _ ∧ _
  rw [hz]
  have he : IsEnum ((s.heap.push o).push { cls := .type "enumerate", data := .fields #[.none, .bool false, .ref s.heap.objs.size, rawInt 0, .none, .none] }) (s.heap.objs.size + 1) s.heap.objs.size 0 .none := by
    have := Heap.get?_push_size (s.heap.push o) (o := { cls := .type "enumerate", data := .fields #[.none, .bool false, .ref s.heap.objs.size, rawInt 0, .none, .none] }) rfl
    rw [hz] at this; exact this
  refine ⟨⟨_, he, rfl⟩, h _ he (Heap.get?_push_of_some _ (Heap.get?_push_size _ B.free)) (by rw [Heap.size_push, hz]) fun b o x => Heap.get?_push_of_some _ (Heap.get?_push_of_some _ x)⟩
end
end PySem
namespace DL
open PySem PySem.Spec PyProof.Rows L2
def IteT (K : PySem.W.Frag) (a : Addr) : It :=
  ⟨fun i H => ∃ (xs : List V) (x : V), SqT K H a xs ∧ xs[i]? = some x, fun i H v H' => ∃ T x, v = .ref T ∧ H T = none ∧ H' = upd H T (.tup [.int (i : Nat), x]) ∧ ∀ xs, SqT K H a xs → xs[i]? = some x, fun i H => ∃ xs : List V, SqT K H a xs ∧ xs.length = i⟩
theorem turn_enumT {P : Program} {w : World} {K : PySem.W.Frag} {elts : List Expr} {kk : Nat} {tpos : Pos} (a e it : Addr) (hai : a ≠ it) (hae : a ≠ e) :
    Turn P w K (.Tuple elts kk tpos) (IteT K a) [e, it] e (fun i h => (∃ old, IsEnum h e it ((i : Nat) : Int) old) ∧ h.IsTupleIter it a i ∧ e ≠ it) where
  mem := by simp
  obj := fun i h st b hb => by
    obtain ⟨⟨old, he⟩, ⟨o, ho, hc, hd⟩, _⟩ := st
    have e' : b = e ∨ b = it := by simpa using hb
    rcases e' with z | z
    · rw [z]; exact ⟨_, he, fun v q => nomatch q⟩
    · rw [z]; exact ⟨o, ho, fun v q => by rw [hd] at q; cases q⟩
  keep := fun i h h' st k => let ⟨⟨old, he⟩, hi, hne⟩ := st; ⟨⟨old, k e (by simp) _ he⟩, hi.at fun o q => k it (by simp) o q, hne⟩
  item := by
    intro X hP hw hK hc i pins s σ H E I hf st hg
    subst hP hw hK
    obtain ⟨⟨old, he⟩, hit, hne⟩ := st
    obtain ⟨xs, x, hq, hx⟩ := hg
    obtain ⟨its, rv, p, hz⟩ := I.tuple hq
    obtain ⟨u, hu, ru⟩ := rv.get hx
    have hel : e < s.heap.objs.size := Heap.lt_size he
    have hil : it < s.heap.objs.size := by obtain ⟨_, q, _⟩ := hit; exact Heap.lt_size q
    have hlt : i < its.toArray.size := by
      have := (List.getElem?_eq_some_iff.mp hu).1
      simpa using this
    refine wpAny_pyNext_enum_itemD (Draws.tuple (A := X.A.in1) (show X.A.in1.handled = none from I.ok.hd hc) it a hai its.toArray) he ⟨hit, p⟩ hlt hne (by simp [hne, hae.symm]) fun y h' tk hy ho hst hT hsz hk => ?_
    have hyu : y = u := by
      have hu' : its.toArray[i]? = some u := by simpa using hu
      rw [hu'] at hy
      exact (Option.some.inj hy).symm
    subst hyu
    refine ⟨_, rfl, wpAny_letOwnedTupleGo_enum (s := { s with heap := h', toks := tk + 1 }) ho fun h'' he' sb => ?_⟩
    have hT2 : h''.get? s.heap.objs.size = some { cls := .type "tuple", data := .seq #[.int i tk, y] } := (sb.2 _ (Nat.ne_of_gt hel)).trans hT
    have new : ObjOk X.prog X.w (upd H s.heap.objs.size (.tup [.int (i : Nat), x])) h'' s.heap.objs.size (.tup [.int (i : Nat), x]) :=
      ⟨by show 2 ≤ sizeLine; decide, [.int i tk, y], .cons ⟨_, rfl⟩ (.cons ru .nil), ⟨_, hT2, rfl, _, rfl⟩⟩
    have I1 : Inv X pins σ (upd H s.heap.objs.size (.tup [.int (i : Nat), x])) { s with heap := h'', toks := tk + 1 } :=
      I.turnedNew (ch := [e, it]) (fun b ob hb q => (sb.2 b (fun z => hb (by simp [z]))).trans (hk b ob (fun z => hb (by simp [z])) (fun z => hb (by simp [z])) q)) hf (Nat.le_refl _) new
    refine ⟨.ref s.heap.objs.size, _, I1, rfl, ⟨_, x, rfl, I.hok.fresh (Nat.le_refl _), rfl, fun ys hy => by rw [I.tuple_inj hy hq]; exact hx⟩, ⟨⟨y, ?_⟩, hst.1.at fun o q => (sb.2 it (Ne.symm hne)).trans q, hne⟩, fun b hb => ?_⟩
    · have e1 : ((i + 1 : Nat) : Int) = (i : Int) + 1 := by omega
      rw [e1]; exact he'
    · have hb' : b < s.heap.objs.size := by
        have e' : b = e ∨ b = it := by simpa using hb
        rcases e' with z | z
        · rw [z]; exact hel
        · rw [z]; exact hil
      rw [upd_ne (Nat.ne_of_lt hb')]
      exact (hf b hb).1
  done := by
    intro X hP hw hK hc i pins s σ H E I hf st hg
    subst hP hw hK
    obtain ⟨⟨old, he⟩, hit, hne⟩ := st
    obtain ⟨xs, hq, hx⟩ := hg
    obtain ⟨its, rv, p, hz⟩ := I.tuple hq
    obtain ⟨f0, f1, f2, f3, f4, f5⟩ := hf it (by simp)
    have hl := rv.length
    have hi : its.toArray.size = i := by simp; omega
    refine wpAny_pyNext_enum_endD (Draws.tuple (A := X.A.in1) (show X.A.in1.handled = none from I.ok.hd hc) it a hai its.toArray) he ⟨by rw [hi]; exact hit, p⟩ fun h' eb => ⟨rfl, I.turned (t' := s.toks) (fun b o hb q => eb b o hb q) f0 f1 f3 f4 f5⟩
  self := fun A i s Q E st h => let ⟨⟨_, he⟩, _⟩ := st; wpAny_pyIter_enum he h
def iEnumA (K : PySem.W.Frag) (ta : TA) : TI := fun σ H R => ta σ H fun vs H1 => ∃ a, vs = [.ref a] ∧ ((∃ xs, SqL K H1 a xs ∧ R (Ite K a) H1) ∨ ∃ xs, SqT K H1 a xs ∧ R (IteT K a) H1)
theorem pi_enumA {X : Cx} {e : Expr} {ta : TA} {p pos tpos : Pos} {elts : List Expr} {kk : Nat} (hg : Gl X "enumerate") (hm : X.mg "enumerate" = none) (ha : PA X [e] ta) (hs : starEach [e] X.env = [(false, eval e X.env)] := by rfl) :
    PI X (.Tuple elts kk tpos) (.Call (.Name "enumerate" p) [e] [] pos) (iEnumA X.K ta) := by
  refine ⟨fun pins s σ H R I h => ?_⟩
  refine Call_ (ld_blt I hg hm boot_enumerate (PyProof.Rows.callWith_type1 (thn (ha.run pos pins s σ H _ I h) fun us s1 ⟨vs, H1, I1, r1, q1⟩ => ?_) hs rfl))
  obtain ⟨a, ex, q1⟩ := q1
  subst ex
  cases r1 with
  | cons r rr =>
    cases rr
    cases r
    have fr : ∀ b, b ∈ [s1.heap.objs.size + 1, s1.heap.objs.size] → FpOk X pins H1 b := fun b hb => by
      have e' : b = s1.heap.objs.size + 1 ∨ b = s1.heap.objs.size := by simpa using hb
      have hle : s1.heap.objs.size ≤ b := by
        rcases e' with z | z
        · rw [z]; exact Nat.le_add_right _ _
        · rw [z]; exact Nat.le_refl _
      exact I1.fpOk hle (I1.hok.fresh hle)
    rcases q1 with ⟨xs, hq, q⟩ | ⟨xs, hq, q⟩
    · obtain ⟨its, rv, p', hz⟩ := I1.list hq
      refine call_enumerate_list p'.isList fun h' he hit hsz hk => wpAny_pyIter_enum he ?_
      have I2 : Inv X pins σ H1 { s1 with heap := h' } := I1.kept (t' := s1.toks) hk
      exact ⟨s1.heap.objs.size + 1, [s1.heap.objs.size + 1, s1.heap.objs.size], _, _, H1, rfl, I2, turn_enum a (s1.heap.objs.size + 1) s1.heap.objs.size, ⟨⟨.none, he⟩, hit, Nat.succ_ne_self _⟩, fr, q⟩
    · obtain ⟨its, rv, p', hz⟩ := I1.tuple hq
      have hal : a < s1.heap.objs.size := by obtain ⟨o, ho, _⟩ := id p'; exact Heap.lt_size ho
      refine DLenum_begins (begins_tuple a its.toArray) p' fun h' he hit hsz hk => wpAny_pyIter_enum he ?_
      have I2 : Inv X pins σ H1 { s1 with heap := h' } := I1.kept (t' := s1.toks) hk
      exact ⟨s1.heap.objs.size + 1, [s1.heap.objs.size + 1, s1.heap.objs.size], _, _, H1, rfl, I2, turn_enumT a (s1.heap.objs.size + 1) s1.heap.objs.size (Nat.ne_of_lt hal) (Nat.ne_of_lt (Nat.lt_succ_of_lt hal)), ⟨⟨.none, he⟩, ⟨_, hit, rfl, rfl⟩, Nat.succ_ne_self _⟩, fr, q⟩
def iSeq (K : PySem.W.Frag) (tl : TE) : TI := fun σ H R => tl σ H fun x H1 => ∃ a, x = .ref a ∧ ((∃ xs, SqL K H1 a xs ∧ R (Itl K a) H1) ∨ ∃ xs, SqT K H1 a xs ∧ R (Itt K a) H1)
theorem pi_seq {X : Cx} {tg l : Expr} {tl : TE} (hl : PE X l tl) : PI X tg l (iSeq X.K tl) := by
  refine ⟨fun pins s σ H R I h => ?_⟩
  refine thn (hl.run pins s σ H _ I h) fun v s1 ⟨x, H1, I1, r1, q1⟩ => ?_
  obtain ⟨a, e, q1⟩ := q1
  subst e
  cases r1
  rcases q1 with ⟨xs, hq, q⟩ | ⟨xs, hq, q⟩
  · obtain ⟨its, rv, p, hz⟩ := I1.list hq
    refine wpAny_pyIter_list p.isList ?_
    refine ⟨s1.heap.objs.size, [s1.heap.objs.size], _, _, H1, rfl, I1.kept (t' := s1.toks) fun b o e => Heap.get?_push_of_some _ e, turn_list a _, ⟨_, Heap.get?_push_size _ rfl, rfl, rfl⟩, fun b hb => ?_, q⟩
    have e : b = s1.heap.objs.size := by simpa using hb
    subst e
    exact I1.fpOk (Nat.le_refl _) (I1.hok.fresh (Nat.le_refl _))
  · obtain ⟨its, rv, p, hz⟩ := I1.tuple hq
    refine wpAny_pyIter_tuple (show s1.heap.IsTuple a its.toArray from p) ?_
    refine ⟨s1.heap.objs.size, [s1.heap.objs.size], _, _, H1, rfl, I1.kept (t' := s1.toks) fun b o e => Heap.get?_push_of_some _ e, turn_tuple a _, ⟨_, Heap.get?_push_size _ rfl, rfl, rfl⟩, fun b hb => ?_, q⟩
    have e : b = s1.heap.objs.size := by simpa using hb
    subst e
    exact I1.fpOk (Nat.le_refl _) (I1.hok.fresh (Nat.le_refl _))

/-! ### what is walked -/
section
variable {X : Cx} {C : Cf} {M : List Md} {Wx : WX} {pos tpos p : Pos} {tg e : Expr} {we : Env → W D}
def seqB : D → Option (List D)
  | .lst xs => some xs
  | .tup xs => some xs
  | _ => none
def seqI (we : Env → W D) : Env → W (List D) := fun ρ Q E => we ρ (fun x => match seqB x with | some xs => Q xs | none => False) E
/-- of what is read: the items hold no list -/
def seqIr (we : Env → W D) : Env → W (List D) := fun ρ Q E => we ρ (fun x => match seqB x with | some xs => imL xs = true ∧ Q xs | none => False) E
theorem seq_is {G : Gx} {F H : Hp} {d : D} {xs : List D} {v : V} (k : Ex F H) (h : Is G F d v) (e : seqB d = some xs) : ∃ a vs, v = .ref a ∧ IsL G F xs vs ∧ ((∀ F', Ex F F' → ∀ o, F a = some o → F' a = some o) ∧ ((F a = some (.lst vs)) ∨ F a = some (.tup vs))) := by
  cases d <;> try (cases e; done)
  · cases e
    obtain ⟨a, vs, rfl, h1, h2⟩ := h
    exact ⟨a, vs, rfl, h2, fun F' k o q => k _ _ q, .inr h1⟩
  · cases e
    obtain ⟨a, vs, rfl, h1, h2⟩ := h
    exact ⟨a, vs, rfl, h2, fun F' k o q => k _ _ q, .inl h1⟩
theorem hsz_of {H : Hp} {a : Addr} {vs : List V} {n : Nat} (h : H a = some (.lst vs) ∨ H a = some (.tup vs)) (hn : vs.length = n) : HSz H → n ≤ sizeLine := fun z => by
  rw [← hn]; exact z a vs h
theorem di_seq (h : DE X C M Wx .v e we) : DI X C M Wx .v tg e (seqI we) := by
  obtain ⟨te, pe, se⟩ := h.ex
  refine ⟨_, pi_seq pe, fun F H σ ρ s Qd Ed R hw hq hx => ?_⟩
  refine se F H σ ρ s _ Ed _ hw (fun d v F1 H1 g1 i1 hw2 => ?_) hx
  split at hw2
  · rename_i xs e2
    obtain ⟨a, vs, rfl, h1, _, h3⟩ := seq_is (g1.fh.trans hid_ex) i1 e2
    have hH : H1 a = some (.lst vs) ∨ H1 a = some (.tup vs) := h3.imp (fun q => (hid_some (g1.fh _ _ q)).2) (fun q => (hid_some (g1.fh _ _ q)).2)
    refine ⟨a, rfl, ?_⟩
    rcases h3 with h3 | h3
    · refine .inl ⟨vs, .inl (.inl (hid_some (g1.fh _ _ h3)).2), hq xs F1 H1 _ g1 (fun F2 H2 e2 _ f2 p2 => ?_) (hsz_of hH h1.len) hw2⟩
      have hl : SqL X.K H2 a vs := .inl (.inl (hid_some (f2 _ _ (e2 _ _ h3))).2)
      refine ⟨⟨vs, hl, by rw [h1.len]; exact Nat.le_refl _⟩, fun i d hd => ?_⟩
      obtain ⟨v, hv, iv⟩ := h1.get hd
      refine ⟨⟨vs, v, hl, hv⟩, fun x H3 y => ?_⟩
      obtain ⟨rfl, y2⟩ := y
      have := y2 vs hl
      rw [hv] at this
      cases this
      exact ⟨F2, Gr.refl f2 p2, Is.mono e2 _ _ iv⟩
    · refine .inr ⟨vs, .inl (.inl (hid_some (g1.fh _ _ h3)).2), hq xs F1 H1 _ g1 (fun F2 H2 e2 _ f2 p2 => ?_) (hsz_of hH h1.len) hw2⟩
      have hl : SqT X.K H2 a vs := .inl (.inl (hid_some (f2 _ _ (e2 _ _ h3))).2)
      refine ⟨⟨vs, hl, by rw [h1.len]; exact Nat.le_refl _⟩, fun i d hd => ?_⟩
      obtain ⟨v, hv, iv⟩ := h1.get hd
      refine ⟨⟨vs, v, hl, hv⟩, fun x H3 y => ?_⟩
      obtain ⟨rfl, y2⟩ := y
      have := y2 vs hl
      rw [hv] at this
      cases this
      exact ⟨F2, Gr.refl f2 p2, Is.mono e2 _ _ iv⟩
  · cases hw2
theorem im_all {xs : List D} (h : imL xs = true) {d : D} (hd : d ∈ xs) : im d = true := by
  rw [imL_all] at h
  exact List.all_eq_true.mp h d hd
theorem di_seqR {k : Kd} (hk : k.isN = false) (h : DE X C M Wx k e we) : DI X C M Wx .r tg e (seqIr we) := by
  obtain ⟨te, pe, se⟩ := h.ex
  refine ⟨_, pi_seq pe, fun F H σ ρ s Qd Ed R hw hq hx => ?_⟩
  refine se F H σ ρ s _ Ed _ hw (fun d v F1 H1 g1 i1 hw2 => ?_) hx
  split at hw2
  · rename_i xs e2
    have i2 : Is (gx X C) (hid C.pl H1) d v := (KIn.of hk i1).ih (G := gx X C) g1.fh
    obtain ⟨a, vs, rfl, h1, _, h3⟩ := seq_is (hid_ex) i2 e2
    have hH : H1 a = some (.lst vs) ∨ H1 a = some (.tup vs) := h3.imp (fun q => (hid_some q).2) (fun q => (hid_some q).2)
    refine ⟨a, rfl, ?_⟩
    rcases h3 with h3 | h3
    · refine .inl ⟨vs, .inl (.inl (hid_some h3).2), hq xs F1 H1 _ g1 (fun F2 H2 e2 er f2 p2 => ?_) (hsz_of hH h1.len) hw2.2⟩
      have er := er rfl
      have hl : SqL X.K H2 a vs := .inl (.inl (er _ _ h3))
      refine ⟨⟨vs, hl, by rw [h1.len]; exact Nat.le_refl _⟩, fun i d hd => ?_⟩
      obtain ⟨v, hv, iv⟩ := h1.get hd
      refine ⟨⟨vs, v, hl, hv⟩, fun x H3 y => ?_⟩
      obtain ⟨rfl, y2⟩ := y
      have := y2 vs hl
      rw [hv] at this
      cases this
      exact ⟨_, Gr.tps f2 p2, Is.up f2 (im_all hw2.1 (List.mem_of_getElem? hd)) (Is.mono er _ _ iv)⟩
    · refine .inr ⟨vs, .inl (.inl (hid_some h3).2), hq xs F1 H1 _ g1 (fun F2 H2 e2 er f2 p2 => ?_) (hsz_of hH h1.len) hw2.2⟩
      have er := er rfl
      have hl : SqT X.K H2 a vs := .inl (.inl (er _ _ h3))
      refine ⟨⟨vs, hl, by rw [h1.len]; exact Nat.le_refl _⟩, fun i d hd => ?_⟩
      obtain ⟨v, hv, iv⟩ := h1.get hd
      refine ⟨⟨vs, v, hl, hv⟩, fun x H3 y => ?_⟩
      obtain ⟨rfl, y2⟩ := y
      have := y2 vs hl
      rw [hv] at this
      cases this
      exact ⟨_, Gr.tps f2 p2, Is.up f2 (im_all hw2.1 (List.mem_of_getElem? hd)) (Is.mono er _ _ iv)⟩
  · cases hw2
theorem DI.r {wi : Env → W (List D)} (h : DI X C M Wx .v tg e wi) : DI X C M Wx .r tg e wi := by
  obtain ⟨ti, pi, si⟩ := h.ex
  exact ⟨ti, pi, fun F H σ ρ s Qd Ed R hw hq hx => si F H σ ρ s Qd Ed R hw (fun ds F' H' J g src sz q => hq ds F' H' J g src.r_of_v sz q) hx⟩
/-! ranges -/
def rngD (lo : Int) (n : Nat) : List D := (List.range n).map fun i : Nat => .int (lo + (i : Int))
def rangeI1 (we : Env → W D) : Env → W (List D) := fun ρ Q E => we ρ (fun x => match x with | .int j => (-(2 ^ 62) ≤ j ∧ j ≤ 16777216) ∧ Q (rngD 0 j.toNat) | _ => False) E
def rangeI2 (wa wb : Env → W D) : Env → W (List D) := fun ρ Q E => wa ρ (fun x => wb ρ (fun y => match x, y with | .int i, .int j => (-(2 ^ 62) ≤ i ∧ i < 2 ^ 62 ∧ -(2 ^ 62) ≤ j ∧ j < 2 ^ 62 ∧ j - i ≤ 16777216) ∧ Q (rngD i (j - i).toNat) | _, _ => False) E) E
theorem src_rng {G : Gx} {F H : Hp} {lo : Int} {n : Nat} : Src G .v F H (Itr lo n) (rngD lo n) := by
  intro F1 H1 e _ f1 p1
  refine ⟨by simp [rngD, Itr], fun i d hd => ?_⟩
  unfold rngD at hd
  rw [List.getElem?_map] at hd
  by_cases hi : i < n
  · rw [List.getElem?_range hi] at hd
    cases hd
    exact ⟨hi, fun x H2 y => by
      obtain ⟨rfl, rfl⟩ := y
      exact ⟨F1, Gr.refl f1 p1, rfl⟩⟩
  · rw [List.getElem?_eq_none (by simpa using hi)] at hd
    cases hd
theorem di_range1 (hg : Gl X "range") (hm : X.mg "range" = none) (h : DE X C M Wx .v e we) (hst : starEach [e] X.env = (false, eval e X.env) :: starEach [] X.env := by rfl) : DI X C M Wx .v tg (.Call (.Name "range" p) [e] [] pos) (rangeI1 we) := by
  obtain ⟨te, pe, se⟩ := h.ex
  refine ⟨_, pi_range1 hg hm (pa_cons pe pa_nil hst) hst, fun F H σ ρ s Qd Ed R hw hq hx => ?_⟩
  refine se F H σ ρ s _ Ed _ hw (fun d v F1 H1 g1 i1 hw2 => ?_) hx
  cases d with
  | int j =>
    obtain ⟨⟨b1, b2⟩, hw3⟩ := hw2
    rw [show v = .int j from i1]
    have hs : sizeLine = 16777216 := sizeLine_eq
    exact ⟨j, rfl, b1, by omega, hq _ F1 H1 _ g1 src_rng (fun _ => by unfold rngD; simp; omega) hw3⟩
  | _ => cases hw2
theorem di_range2 {a b : Expr} {wa wb : Env → W D} (hg : Gl X "range") (hm : X.mg "range" = none) (ha : DE X C M Wx .v a wa) (hb : DE X C M Wx .v b wb)
    (hs : starEach [a, b] X.env = [(false, eval a X.env), (false, eval b X.env)] := by rfl) (hs2 : starEach [b] X.env = [(false, eval b X.env)] := by rfl) : DI X C M Wx .v tg (.Call (.Name "range" p) [a, b] [] pos) (rangeI2 wa wb) := by
  obtain ⟨ta, pa, sa⟩ := ha.ex
  obtain ⟨tb, pb, sb⟩ := hb.ex
  refine ⟨_, pi_range2 hg hm (pa_cons pa (pa_cons pb pa_nil (by rw [hs2]; rfl)) (by rw [hs, hs2])) hs hs2, fun F H σ ρ s Qd Ed R hw hq hx => ?_⟩
  refine sa F H σ ρ s _ Ed _ hw (fun d v F1 H1 g1 i1 hw2 => ?_) hx
  refine sb F1 H1 σ ρ (s.gr g1) _ Ed _ hw2 (fun d2 v2 F2 H2 g2 i2 hw3 => ?_) fun x cls dd F2 H2 g2 => hx x cls dd F2 H2 (g1.trans g2)
  cases d with
  | int i =>
    cases d2 with
    | int j =>
      obtain ⟨⟨b1, b2, b3, b4, b5⟩, hw4⟩ := hw3
      rw [show v = .int i from i1, show v2 = .int j from i2]
      have hs : sizeLine = 16777216 := sizeLine_eq
      exact ⟨i, j, rfl, ⟨b1, b2, b3, b4⟩, hq _ F2 H2 _ (g1.trans g2) src_rng (fun _ => by unfold rngD; simp; omega) hw4⟩
    | _ => cases hw3
  | _ => cases hw3
/-! enumerate -/
def enumD (xs : List D) : List D := xs.zipIdx.map fun p => .tup [.int (p.2 : Nat), p.1]
def enumI (we : Env → W D) : Env → W (List D) := fun ρ Q E => we ρ (fun x => match seqB x with | some xs => Q (enumD xs) | none => False) E
def enumIr (we : Env → W D) : Env → W (List D) := fun ρ Q E => we ρ (fun x => match seqB x with | some xs => imL xs = true ∧ Q (enumD xs) | none => False) E
theorem enum_get {xs : List D} {i : Nat} {d : D} (h : (enumD xs)[i]? = some d) : ∃ x, xs[i]? = some x ∧ d = .tup [.int (i : Nat), x] := by
  unfold enumD at h
  rw [List.getElem?_map, List.getElem?_zipIdx] at h
  cases e : xs[i]? with
  | none => rw [e] at h; cases h
  | some x => rw [e] at h; simp at h; exact ⟨x, rfl, h.symm⟩
theorem pair_new {G : Gx} {F H : Hp} (f : Ex F (hid G.pl H)) (po : PoolOk G.pl H) {x y : D} {v u : V} (h1 : Is G F x v) (h2 : Is G F y u) {T : Addr} (hT : H T = none) : ∃ F2, Gr G.pl F H F2 (upd H T (.tup [v, u])) ∧ Is G F2 (.tup [x, y]) (.ref T) := by
  have g := Gr.new (o := .tup [v, u]) f po hT
  exact ⟨_, g, T, [v, u], rfl, upd_same, v, [u], rfl, Is.mono g.ff _ _ h1, u, [], rfl, Is.mono g.ff _ _ h2, rfl⟩
theorem di_enum {elts : List Expr} {kk : Nat} (hg : Gl X "enumerate") (hm : X.mg "enumerate" = none) (h : DE X C M Wx .v e we) (hst : starEach [e] X.env = (false, eval e X.env) :: starEach [] X.env := by rfl) : DI X C M Wx .v (.Tuple elts kk tpos) (.Call (.Name "enumerate" p) [e] [] pos) (enumI we) := by
  obtain ⟨te, pe, se⟩ := h.ex
  refine ⟨_, pi_enumA hg hm (pa_cons pe pa_nil hst) hst, fun F H σ ρ s Qd Ed R hw hq hx => ?_⟩
  refine se F H σ ρ s _ Ed _ hw (fun d v F1 H1 g1 i1 hw2 => ?_) hx
  split at hw2
  · rename_i xs e2
    obtain ⟨a, vs, rfl, h1, _, h3⟩ := seq_is (g1.fh.trans hid_ex) i1 e2
    have hH : H1 a = some (.lst vs) ∨ H1 a = some (.tup vs) := h3.imp (fun q => (hid_some (g1.fh _ _ q)).2) (fun q => (hid_some (g1.fh _ _ q)).2)
    have hen : (enumD xs).length = xs.length := by simp [enumD]
    refine ⟨a, rfl, ?_⟩
    rcases h3 with h3 | h3
    · refine .inl ⟨vs, .inl (.inl (hid_some (g1.fh _ _ h3)).2), hq _ F1 H1 _ g1 (fun F2 H2 e2 _ f2 p2 => ?_) (by rw [hen]; exact hsz_of hH h1.len) hw2⟩
      have hl : SqL X.K H2 a vs := .inl (.inl (hid_some (f2 _ _ (e2 _ _ h3))).2)
      refine ⟨⟨vs, hl, by rw [h1.len, hen]; exact Nat.le_refl _⟩, fun i d hd => ?_⟩
      obtain ⟨x, hx2, rfl⟩ := enum_get hd
      obtain ⟨v, hv, iv⟩ := h1.get hx2
      refine ⟨⟨vs, v, hl, hv⟩, fun y H3 yy => ?_⟩
      obtain ⟨T, x', rfl, hT, rfl, y2⟩ := yy
      have := y2 vs hl
      rw [hv] at this
      cases this
      exact pair_new (x := .int i) f2 p2 rfl (Is.mono e2 _ _ iv) hT
    · refine .inr ⟨vs, .inl (.inl (hid_some (g1.fh _ _ h3)).2), hq _ F1 H1 _ g1 (fun F2 H2 e2 _ f2 p2 => ?_) (by rw [hen]; exact hsz_of hH h1.len) hw2⟩
      have hl : SqT X.K H2 a vs := .inl (.inl (hid_some (f2 _ _ (e2 _ _ h3))).2)
      refine ⟨⟨vs, hl, by rw [h1.len, hen]⟩, fun i d hd => ?_⟩
      obtain ⟨x, hx2, rfl⟩ := enum_get hd
      obtain ⟨v, hv, iv⟩ := h1.get hx2
      refine ⟨⟨vs, v, hl, hv⟩, fun y H3 yy => ?_⟩
      obtain ⟨T, x', rfl, hT, rfl, y2⟩ := yy
      have := y2 vs hl
      rw [hv] at this
      cases this
      exact pair_new (x := .int i) f2 p2 rfl (Is.mono e2 _ _ iv) hT
  · cases hw2
/-! zip of two lists, of two tuples -/
def zipD (xs ys : List D) : List D := (xs.zip ys).map fun p => .tup [p.1, p.2]
def zipI (wa wb : Env → W D) : Env → W (List D) := fun ρ Q E => wa ρ (fun x => wb ρ (fun y => match x, y with | .lst xs, .lst ys => Q (zipD xs ys) | .tup xs, .tup ys => Q (zipD xs ys) | _, _ => False) E) E
theorem zip_get {xs ys : List D} {i : Nat} {d : D} (h : (zipD xs ys)[i]? = some d) : ∃ x y, xs[i]? = some x ∧ ys[i]? = some y ∧ d = .tup [x, y] := by
  unfold zipD at h
  rw [List.getElem?_map, Option.map_eq_some_iff] at h
  obtain ⟨p, h, rfl⟩ := h
  rw [List.getElem?_zip_eq_some] at h
  exact ⟨p.1, p.2, h.1, h.2, rfl⟩
theorem di_zip {a b : Expr} {wa wb : Env → W D} {elts : List Expr} {kk : Nat} (hg : Gl X "zip") (hm : X.mg "zip" = none) (ha : DE X C M Wx .v a wa) (hb : DE X C M Wx .v b wb)
    (hs : starEach [a, b] X.env = (false, eval a X.env) :: starEach [b] X.env := by rfl) (hs2 : starEach [b] X.env = (false, eval b X.env) :: starEach [] X.env := by rfl) (hpl : (backTo pos (starEach [b] X.env)).any (·.1) = false := by rfl) : DI X C M Wx .v (.Tuple elts kk tpos) (.Call (.Name "zip" p) [a, b] [] pos) (zipI wa wb) := by
  obtain ⟨ta, pa, sa⟩ := ha.ex
  obtain ⟨tb, pb, sb⟩ := hb.ex
  refine ⟨_, RZ.pi_zipA hg hm (pa_cons pa (pa_cons pb pa_nil hs2) hs) hs hpl, fun F H σ ρ s Qd Ed R hw hq hx => ?_⟩
  refine sa F H σ ρ s _ Ed _ hw (fun d v F1 H1 g1 i1 hw2 => ?_) hx
  refine sb F1 H1 σ ρ (s.gr g1) _ Ed _ hw2 (fun d2 v2 F2 H2 g2 i2 hw3 => ?_) fun x cls dd F2 H2 g2 => hx x cls dd F2 H2 (g1.trans g2)
  replace i1 : Is (gx X C) F2 d v := Is.mono g2.ff _ _ i1
  replace i2 : Is (gx X C) F2 d2 v2 := i2
  have g12 := g1.trans g2
  cases d <;> try exact hw3.elim
  · cases d2 <;> try exact hw3.elim
    rename_i xs ys
    have hw3 : Qd (zipD xs ys) := hw3
    obtain ⟨a, vs, rfl, h1, h2⟩ := i1
    obtain ⟨b, us, rfl, k1, k2⟩ := i2
    have hzl : (zipD xs ys).length = min xs.length ys.length := by simp [zipD]
    refine ⟨a, b, vs, us, rfl, .inr ⟨.inl (.inl (hid_some (g2.fh _ _ h1)).2), .inl (.inl (hid_some (g2.fh _ _ k1)).2), hq _ F2 H2 _ g12 (fun F3 H3 e3 _ f3 p3 => ?_) (fun z => ?_) hw3⟩⟩
    · have hl : SqT X.K H3 a vs := .inl (.inl (hid_some (f3 _ _ (e3 _ _ h1))).2)
      have hl2 : SqT X.K H3 b us := .inl (.inl (hid_some (f3 _ _ (e3 _ _ k1))).2)
      refine ⟨⟨vs, us, hl, hl2, by rw [h2.len, k2.len, hzl]; omega⟩, fun i d hd => ?_⟩
      obtain ⟨x, y, hx2, hy2, rfl⟩ := zip_get hd
      obtain ⟨v, hv, iv⟩ := h2.get hx2
      obtain ⟨u, hu, iu⟩ := k2.get hy2
      refine ⟨⟨vs, us, v, u, hl, hl2, hv, hu⟩, fun w H4 yy => ?_⟩
      obtain ⟨T, x', y', rfl, hT, rfl, y2, y3⟩ := yy
      have q1 := y2 vs hl
      have q2 := y3 us hl2
      rw [hv] at q1
      rw [hu] at q2
      cases q1
      cases q2
      exact pair_new f3 p3 (Is.mono e3 _ _ iv) (Is.mono e3 _ _ iu) hT
    · have := z a vs (.inr (hid_some (g2.fh _ _ h1)).2)
      rw [h2.len] at this
      rw [hzl]; omega
  · cases d2 <;> try exact hw3.elim
    rename_i xs ys
    have hw3 : Qd (zipD xs ys) := hw3
    obtain ⟨a, vs, rfl, h1, h2⟩ := i1
    obtain ⟨b, us, rfl, k1, k2⟩ := i2
    have hzl : (zipD xs ys).length = min xs.length ys.length := by simp [zipD]
    refine ⟨a, b, vs, us, rfl, .inl ⟨.inl (.inl (hid_some (g2.fh _ _ h1)).2), .inl (.inl (hid_some (g2.fh _ _ k1)).2), hq _ F2 H2 _ g12 (fun F3 H3 e3 _ f3 p3 => ?_) (fun z => ?_) hw3⟩⟩
    · have hl : SqL X.K H3 a vs := .inl (.inl (hid_some (f3 _ _ (e3 _ _ h1))).2)
      have hl2 : SqL X.K H3 b us := .inl (.inl (hid_some (f3 _ _ (e3 _ _ k1))).2)
      refine ⟨⟨vs, us, hl, hl2, by rw [h2.len, k2.len, hzl]; omega⟩, fun i d hd => ?_⟩
      obtain ⟨x, y, hx2, hy2, rfl⟩ := zip_get hd
      obtain ⟨v, hv, iv⟩ := h2.get hx2
      obtain ⟨u, hu, iu⟩ := k2.get hy2
      refine ⟨⟨vs, us, v, u, hl, hl2, hv, hu⟩, fun w H4 yy => ?_⟩
      obtain ⟨T, x', y', rfl, hT, rfl, y2, y3⟩ := yy
      have q1 := y2 vs hl
      have q2 := y3 us hl2
      rw [hv] at q1
      rw [hu] at q2
      cases q1
      cases q2
      exact pair_new f3 p3 (Is.mono e3 _ _ iv) (Is.mono e3 _ _ iu) hT
    · have := z a vs (.inl (hid_some (g2.fh _ _ h1)).2)
      rw [h2.len] at this
      rw [hzl]; omega
end
end DL

namespace DL
open PySem PySem.Spec PyProof.Rows L2

/-! ### what is owned changes -/
theorem OwnL.append {G : Gx} {F H : Hp} {n : Nat} : ∀ {ds : List D} {vs : List V} {f1 : List Addr} {es : List D} {us : List V} {f2 : List Addr}, OwnL G F H ds n vs f1 → OwnL G F H es n us f2 → OwnL G F H (ds ++ es) n (vs ++ us) (f1 ++ f2)
  | [], _, _, es, us, f2, h, h2 => by
    obtain ⟨rfl, rfl⟩ := h
    exact h2
  | d0 :: ds, _, _, es, us, f2, h, h2 => by
    obtain ⟨v0, r, g1, g2, rfl, h3, h4, rfl⟩ := h
    exact ⟨v0, r ++ us, g1, g2 ++ f2, rfl, h3, OwnL.append h4 h2, by simp⟩
/-- the j-th of them, and what comes when it changes -/
theorem OwnL.at {G : Gx} {F H : Hp} {n : Nat} : ∀ {ds : List D} {vs : List V} {fp : List Addr} {j : Nat} {d : D}, OwnL G F H ds n vs fp → fp.Nodup → ds[j]? = some d → ∃ v f, vs[j]? = some v ∧ OwnD G F H d n v f ∧ f.Nodup ∧ (∀ l ∈ f, l ∈ fp) ∧
    ∀ (H' : Hp) (d' : D) (v' : V) (f' : List Addr), (∀ a o, a ∉ f → H a = some o → H' a = some o) → OwnD G F H' d' n v' f' → f'.Nodup → (∀ l ∈ f', l ∈ f ∨ l ∉ fp) → ∃ fp', OwnL G F H' (ds.set j d') n (vs.set j v') fp' ∧ fp'.Nodup ∧ ∀ l ∈ fp', l ∈ fp ∨ l ∈ f'
  | [], _, _, _, _, _, _, e => by simp at e
  | d0 :: ds, _, _, 0, d, h, nd, e => by
    obtain ⟨v, r, f1, f2, rfl, h1, h2, rfl⟩ := h
    simp at e
    subst e
    obtain ⟨n1, n2, n3⟩ := List.nodup_append.mp nd
    refine ⟨v, f1, rfl, h1, n1, fun l hl => List.mem_append_left _ hl, fun H' d' v' f' k o nf sub => ⟨f' ++ f2, ⟨v', r, f', f2, rfl, o, OwnL.step (Ex.refl _) ds n r f2 (fun l hl => ⟨(OwnL.there _ _ _ _ h2 l hl).1, fun u hu => k l u (fun z => n3 l z l hl rfl) hu⟩) h2, rfl⟩, List.nodup_append.mpr ⟨nf, n2, fun a ha b hb e => ?_⟩, fun l hl => ?_⟩⟩
    · subst e
      rcases sub a ha with z | z
      · exact n3 a z a hb rfl
      · exact z (List.mem_append_right _ hb)
    · rcases List.mem_append.mp hl with z | z
      · exact .inr z
      · exact .inl (List.mem_append_right _ z)
  | d0 :: ds, _, _, j + 1, d, h, nd, e => by
    obtain ⟨v, r, f1, f2, rfl, h1, h2, rfl⟩ := h
    obtain ⟨n1, n2, n3⟩ := List.nodup_append.mp nd
    obtain ⟨v2, f, e2, o2, nf, sub2, k2⟩ := OwnL.at (j := j) h2 n2 (by simpa using e)
    refine ⟨v2, f, by simpa using e2, o2, nf, fun l hl => List.mem_append_right _ (sub2 l hl), fun H' d' v' f' k o nf' sub => ?_⟩
    obtain ⟨fp', o', nd', s'⟩ := k2 H' d' v' f' k o nf' fun l hl => (sub l hl).imp id fun z y => z (List.mem_append_right _ y)
    refine ⟨f1 ++ fp', ⟨v, r.set j v', f1, fp', by simp, OwnD.step (Ex.refl _) d0 n v f1 (fun l hl => ⟨(OwnD.there _ _ _ _ h1 l hl).1, fun u hu => k l u (fun z => n3 l hl l (sub2 l z) rfl) hu⟩) h1, o', rfl⟩, List.nodup_append.mpr ⟨n1, nd', fun a ha b hb e => ?_⟩, fun l hl => ?_⟩
    · subst e
      rcases s' a hb with z | z
      · exact n3 a ha a z rfl
      · rcases sub a z with y | y
        · exact n3 a ha a (sub2 a y) rfl
        · exact y (List.mem_append_left _ ha)
    · rcases List.mem_append.mp hl with z | z
      · exact .inl (List.mem_append_left _ z)
      · exact (s' l z).imp (fun y => List.mem_append_right _ y) id
section
variable {G : Gx} {C : Cf} {M : List Md} {F H F1 H1 : Hp} {σ : L2.St} {ρ : Env}
theorem PoolOk.keep {pl : List Addr} {H H' : Hp} (h : PoolOk pl H) (k : ∀ a ∈ pl, ∀ o, H a = some o → H' a = some o) : PoolOk pl H' := by
  match pl, h with
  | [], _ => trivial
  | [p, c], h =>
    obtain ⟨ne, s, n, xs, h1, h2⟩ := h
    exact ⟨ne, s, n, xs, k p (by simp) _ h1, k c (by simp) _ h2⟩
/-- the slot i's own data changes, from (F, H) by way of (F1, H1) -/
theorem SR.mut (s : SR G C M F H σ ρ) (g : Gr C.pl F H F1 H1) {i n : Nat} {d : D} (hM : ownAt M i = some n) (hd : ρ[i]? = some (some d)) : ∃ v fp, σ[i]? = some (some v) ∧ OwnD G F1 H1 d n v fp ∧ fp.Nodup ∧ (∀ l ∈ fp, F1 l = none ∧ l ∉ C.pl ∧ ∃ o, H l = some o) ∧
    ∀ (H' : Hp) (d' : D) (fp' : List Addr), (∀ a o, a ∉ fp → H1 a = some o → H' a = some o) → OwnD G F1 H' d' n v fp' → fp'.Nodup → (∀ l ∈ fp', l ∈ fp ∨ H l = none) → SR G C M F1 H' σ (ρ.set i (some d')) := by
  obtain ⟨fp, f, k⟩ := s.own
  have f1 := f.gr g
  obtain ⟨m, v, e1, e2, h1⟩ := k i d hd
  have hi : i < M.length := (List.getElem?_eq_some_iff.mp e1).1
  have h1g := h1.gr g (fun l hl => ⟨(f1.out i l hl).1, (f1.out i l hl).2.2.1⟩)
  have hm : m.own = some n := by unfold ownAt at hM; rw [e1] at hM; exact hM
  have h1' : OwnD G F1 H1 d n v (fp i) := by
    cases m <;> simp only [Md.own] at hm <;> cases hm
    · exact h1g
    · exact h1g.2
  refine ⟨v, fp i, e2, h1', f.nd i, fun l hl => ⟨(f1.out i l hl).1, (f.out i l hl).2.2.1, let ⟨o, e, _⟩ := (f.out i l hl).2.2.2; ⟨o, e⟩⟩, fun H' d' fp' keep own nd' sub => ?_⟩
  have s1 := s.base.gr g
  have npl : ∀ a ∈ C.pl, a ∉ fp i := fun a ha z => (f.out i a z).2.2.1 ha
  refine ⟨⟨fun a o e => ?_, s1.ff, fun a o e => ?_, s1.sep, s1.pool.keep fun a ha o e => keep a o (npl a ha) e⟩, s.ls, by simp [s.lr], fun j => if j = i then fp' else fp j, ⟨fun j => ?_, fun j j' l hj hl => ?_, fun j l hl => ?_⟩, fun j d2 e => ?_⟩
  · have hh := s1.stay a o e
    refine keep a o (fun z => ?_) hh
    have := (f.out i a z).2.1
    rw [(hid_some e).2] at this; cases this
  · obtain ⟨q1, q2⟩ := hid_some (s1.fh a o e)
    rw [hid_out q1]
    refine keep a o (fun z => ?_) q2
    rw [(f1.out i a z).1] at e; cases e
  · split
    · exact nd'
    · exact f.nd j
  · by_cases h1 : j = i
    · rw [if_pos h1] at hl
      rw [if_neg (fun z => hj (h1.trans z.symm))]
      intro z
      rcases sub l hl with y | y
      · exact f.dj i j' l (fun e => hj (h1.trans e)) y z
      · obtain ⟨_, _, _, o, e, _⟩ := f.out j' l z
        rw [y] at e; cases e
    · rw [if_neg h1] at hl
      by_cases h2 : j' = i
      · rw [if_pos h2]
        intro z
        rcases sub l z with y | y
        · exact f.dj j i l h1 hl y
        · obtain ⟨_, _, _, o, e, _⟩ := f.out j l hl
          rw [y] at e; cases e
      · rw [if_neg h2]; exact f.dj j j' l hj hl
  · by_cases h1 : j = i
    · rw [if_pos h1] at hl
      obtain ⟨q1, q2⟩ := OwnD.there d' n v fp' own l hl
      rcases sub l hl with y | y
      · exact ⟨q1, (f.out i l y).2.1, (f.out i l y).2.2.1, q2⟩
      · exact ⟨q1, s.base.old y, (s.base.nofresh y).2, q2⟩
    · rw [if_neg h1] at hl
      obtain ⟨q1, q2, q3, o, q4, q5⟩ := f1.out j l hl
      exact ⟨q1, q2, q3, o, keep l o (f.dj j i l h1 hl) q4, q5⟩
  · by_cases hj : j = i
    · subst hj
      rw [List.getElem?_set_self (by rw [s.lr]; exact hi)] at e
      cases e
      refine ⟨m, v, e1, e2, ?_⟩
      simp only [if_pos rfl]
      cases m <;> simp only [Md.own] at hm <;> cases hm
      · exact own
      · exact ⟨h1.1, own⟩
    · rw [List.getElem?_set_ne (Ne.symm hj)] at e
      obtain ⟨m, v', e1, e2, h1⟩ := k j d2 e
      refine ⟨m, v', e1, e2, ?_⟩
      simp only [if_neg hj]
      have h2 := h1.gr g fun l hl => ⟨(f1.out j l hl).1, (f1.out j l hl).2.2.1⟩
      cases m with
      | v => exact h2
      | b => exact h2
      | o n' => exact OwnD.step (Ex.refl _) d2 n' v' (fp j) (fun l hl => ⟨(f1.out j l hl).1, fun o e => keep l o (f.dj j i l hj hl) e⟩) h2
      | p n' u => exact ⟨h2.1, OwnD.step (Ex.refl _) d2 n' v' (fp j) (fun l hl => ⟨(f1.out j l hl).1, fun o e => keep l o (f.dj j i l hj hl) e⟩) h2.2⟩
end

/-! ### dicts at data -/
def putD {κ : Type} [DecidableEq κ] (ks : List κ) (ds : List D) (k : κ) (d : D) : List κ × List D :=
  if (ks.any fun z => decide (z = k)) = true then (ks, (ks.zip ds).map fun p => if p.1 = k then d else p.2) else (ks ++ [k], ds ++ [d])
theorem putK_keys {κ : Type} [DecidableEq κ] {k : κ} {v : V} (vs : List (κ × V)) (ds : List D) (d : D) : (putK vs k v).map Prod.fst = (putD (vs.map Prod.fst) ds k d).1 := by
  unfold putK putD
  have e : (vs.any fun kv => decide (kv.1 = k)) = ((vs.map Prod.fst).any fun z => decide (z = k)) := by rw [List.any_map]; rfl
  rw [e]
  by_cases h : ((vs.map Prod.fst).any fun z => decide (z = k)) = true
  · rw [if_pos h, if_pos h, List.map_map]
    apply List.map_congr_left
    intro p _
    simp only [Function.comp]
    split <;> rfl
  · rw [if_neg h, if_neg h, List.map_append]
    rfl
theorem putK_go {κ : Type} [DecidableEq κ] {G : Gx} {F : Hp} {k : κ} {v : V} {d : D} (hv : Is G F d v) : ∀ (vs : List (κ × V)) (ds : List D), IsL G F ds (vs.map Prod.snd) → IsL G F (((vs.map Prod.fst).zip ds).map fun p => if p.1 = k then d else p.2) ((vs.map (fun kv => if kv.1 = k then (kv.1, v) else kv)).map Prod.snd)
  | [], _, _ => rfl
  | p :: vs, [], h => by cases h
  | p :: vs, d0 :: ds, h => by
    obtain ⟨v0, r, e1, h1, h2⟩ := h
    injection e1 with e2 e3
    subst e2 e3
    refine ⟨_, _, rfl, ?_, putK_go hv vs ds h2⟩
    simp only
    split
    · exact hv
    · exact h1
/-- without levels: what is put holds nothing of its own -/
theorem putK_is {κ : Type} [DecidableEq κ] {G : Gx} {F : Hp} {k : κ} {v : V} {d : D} (hv : Is G F d v) {vs : List (κ × V)} {ds : List D} (h : IsL G F ds (vs.map Prod.snd)) : IsL G F (putD (vs.map Prod.fst) ds k d).2 ((putK vs k v).map Prod.snd) := by
  unfold putK putD
  have e : (vs.any fun kv => decide (kv.1 = k)) = ((vs.map Prod.fst).any fun z => decide (z = k)) := by rw [List.any_map]; rfl
  rw [e]
  by_cases hh : ((vs.map Prod.fst).any fun z => decide (z = k)) = true
  · rw [if_pos hh, if_pos hh]
    exact putK_go hv vs ds h
  · rw [if_neg hh, if_neg hh, List.map_append]
    exact h.append ⟨v, [], rfl, hv, rfl⟩

/-! ### statements that change what is owned -/
section
variable {X : Cx} {C : Cf} {Ml M : List Md} {rk : Kd} {Wx : WX} {pos apos cpos p2 p3 : Pos}
def lstAt (ρ : Env) (i : Nat) (f : List D → Prop) : Prop := match ρ[i]? with | some (some (.lst xs)) => f xs | _ => False
theorem lstAt_some {ρ : Env} {i : Nat} {f : List D → Prop} (h : lstAt ρ i f) : ∃ xs, ρ[i]? = some (some (.lst xs)) ∧ f xs := by
  unfold lstAt at h
  split at h
  · exact ⟨_, by assumption, h⟩
  · cases h
theorem own_lst {G : Gx} {F H : Hp} {xs : List D} {n : Nat} {v : V} {fp : List Addr} (h : OwnD G F H (.lst xs) (n + 1) v fp) : ∃ l vs r, v = .ref l ∧ F l = none ∧ H l = some (.lst vs) ∧ OwnL G F H xs n vs r ∧ fp = l :: r := h
def appendW (i : Nat) (we : Env → W D) : Env → W Fl := fun ρ Q E => lstAt ρ i fun xs => we ρ (fun d => xs.length < 16777216 ∧ Q (.next (ρ.set i (some (.lst (xs ++ [d])))))) E
theorem ds_append {i n : Nat} {x : Str} {e : Expr} {ke : Kd} {we : Env → W D} (hM : ownAt M i = some (n + 1)) (hN : X.N[i]? = some x) (hv : Vis X.env.scope x) (he : DE X C M Wx ke e we) (hke : ke.isR = false := by rfl) (hl : ke.lvl = n := by rfl) (hd : (x == ("__debug__" : Str)) = false := by decide) (hcd : (x == ("__classdict__" : Str)) = false := by decide)
    (hfew : ((backTo cpos (starEach [e] X.env)).all (fun x => !x.1) && (backToKw cpos (keywordEach [] X.env)).all (fun x => x.1.isSome)
      && decide (([e] : List Expr).length + ([] : List Keyword).length + (if ([] : List Keyword).isEmpty then 0 else 1) < 30)) = true := by rfl)
    (hline : (apos.endLine == cpos.line) = true := by rfl) (hst : starEach [e] X.env = (false, eval e X.env) :: starEach [] X.env := by rfl)
    (hbase : attributeBase (.Name x p2) "append" X.env (eval (.Name x p2) X.env) = eval (.Name x p2) X.env := by rfl) (hs : swapsWith (.Call (.Attribute (.Name x p2) "append" apos) [e] [] cpos) none pos.line X.env = pure false := by rfl) :
    DS X C Ml rk Wx M M (.Expr (.Call (.Attribute (.Name x p2) "append" apos) [e] [] cpos) pos) (appendW i we) := by
  obtain ⟨te, pe, se⟩ := he.ex
  refine ⟨_, ps_expr (pe_bm PySem.F.plainAttrs_list PySem.F.slot_list_append PySem.F.type_list_append mt_append (pe_var hN hv hd hcd) (pa_cons pe pa_nil hst) hbase hfew hline hst rfl) hs, fun F H σ ρ r Qd Ed D_ hw hn _ _ _ hx => ?_⟩
  obtain ⟨xs, e0, hw⟩ := lstAt_some hw
  obtain ⟨v, fp, e1, o1, _, _, _⟩ := r.mut (Gr.refl r.base.fh r.base.pool) hM e0
  obtain ⟨l, vs, r1, rfl, q1, q2, q3, rfl⟩ := own_lst o1
  refine ⟨.ref l, e1, .inl ⟨rfl, vs, .inl (.inl q2)⟩, ?_⟩
  refine se F H σ ρ r _ Ed _ hw (fun d u F1 H1 g k q => ?_) fun x cls dd F' H' g i q => hx x cls dd σ F' H' g.ff (r.base.gr g) i q
  obtain ⟨v, fp, e1', o1, nd, out, fin⟩ := r.mut g hM e0
  rw [e1] at e1'; cases e1'
  obtain ⟨l', vs', r1', el, q1, q2, q3, rfl⟩ := own_lst o1
  cases el
  obtain ⟨fn, on, ndn, frn⟩ := k.own hke
  rw [hl] at on
  have hs : sizeLine = 16777216 := sizeLine_eq
  refine ⟨l, vs', u, rfl, rfl, q2, by rw [q3.len, hs]; exact q.1, ?_⟩
  obtain ⟨nd1, nd2⟩ := List.nodup_cons.mp nd
  have frl : ∀ a ∈ fn, a ≠ l := fun a ha z => by
    obtain ⟨o, eo⟩ := (out l (by simp)).2.2
    have := frn a ha
    rw [z, eo] at this; cases this
  have keep : ∀ a o, a ≠ l → H1 a = some o → upd H1 l (.lst (vs' ++ [u])) a = some o := fun a o ha e => by rw [upd_ne ha]; exact e
  refine hn σ _ F1 _ g.ff (fin (upd H1 l (.lst (vs' ++ [u]))) (.lst (xs ++ [d])) (l :: (r1' ++ fn)) (fun a o ha e => keep a o (fun z => ha (by simp [z])) e) ⟨l, vs' ++ [u], r1' ++ fn, rfl, q1, upd_same, ?_, rfl⟩ ?_ fun a ha => ?_) q.2
  · refine OwnL.app (OwnL.step (Ex.refl _) xs n vs' r1' (fun a ha => ⟨(OwnL.there _ _ _ _ q3 a ha).1, fun o e => keep a o (fun z => nd1 (z ▸ ha)) e⟩) q3) (OwnD.step (Ex.refl _) d n u fn (fun a ha => ⟨(OwnD.there _ _ _ _ on a ha).1, fun o e => keep a o (frl a ha) e⟩) on)
  · refine List.nodup_cons.mpr ⟨fun z => ?_, List.nodup_append.mpr ⟨nd2, ndn, fun a ha b hb e => ?_⟩⟩
    · rcases List.mem_append.mp z with z | z
      · exact nd1 z
      · exact frl l z rfl
    · subst e
      obtain ⟨o, eo⟩ := (out a (by simp [ha])).2.2
      rw [frn a hb] at eo; cases eo
  · rcases List.mem_cons.mp ha with rfl | ha
    · exact .inl (by simp)
    · rcases List.mem_append.mp ha with ha | ha
      · exact .inl (by simp [ha])
      · exact .inr (frn a ha)
def extendW (i : Nat) (we : Env → W D) : Env → W Fl := fun ρ Q E => lstAt ρ i fun xs => we ρ (fun d => match d with | .lst ys => xs.length + ys.length ≤ 16777216 ∧ Q (.next (ρ.set i (some (.lst (xs ++ ys))))) | _ => False) E
theorem ds_extend {i : Nat} {x : Str} {e : Expr} {we : Env → W D} (hM : ownAt M i = some 1) (hN : X.N[i]? = some x) (hv : Vis X.env.scope x) (he : DE X C M Wx .v e we) (hd : (x == ("__debug__" : Str)) = false := by decide) (hcd : (x == ("__classdict__" : Str)) = false := by decide)
    (hfew : ((backTo cpos (starEach [e] X.env)).all (fun x => !x.1) && (backToKw cpos (keywordEach [] X.env)).all (fun x => x.1.isSome)
      && decide (([e] : List Expr).length + ([] : List Keyword).length + (if ([] : List Keyword).isEmpty then 0 else 1) < 30)) = true := by rfl)
    (hline : (apos.endLine == cpos.line) = true := by rfl) (hst : starEach [e] X.env = (false, eval e X.env) :: starEach [] X.env := by rfl)
    (hbase : attributeBase (.Name x p2) "extend" X.env (eval (.Name x p2) X.env) = eval (.Name x p2) X.env := by rfl) (hs : swapsWith (.Call (.Attribute (.Name x p2) "extend" apos) [e] [] cpos) none pos.line X.env = pure false := by rfl) :
    DS X C Ml rk Wx M M (.Expr (.Call (.Attribute (.Name x p2) "extend" apos) [e] [] cpos) pos) (extendW i we) := by
  obtain ⟨te, pe, se⟩ := he.ex
  refine ⟨_, ps_expr (pe_bm PySem.F.plainAttrs_list PySem.F.slot_list_extend PySem.F.type_list_extend mt_extend (pe_var hN hv hd hcd) (pa_cons pe pa_nil hst) hbase hfew hline hst rfl) hs, fun F H σ ρ r Qd Ed D_ hw hn _ _ _ hx => ?_⟩
  obtain ⟨xs, e0, hw⟩ := lstAt_some hw
  obtain ⟨v, fp, e1, o1, _, _, _⟩ := r.mut (Gr.refl r.base.fh r.base.pool) hM e0
  obtain ⟨l, vs, r1, rfl, q1, q2, q3, rfl⟩ := own_lst o1
  refine ⟨.ref l, e1, .inl ⟨rfl, vs, .inl (.inl q2)⟩, ?_⟩
  refine se F H σ ρ r _ Ed _ hw (fun d u F1 H1 g k q => ?_) fun x cls dd F' H' g i q => hx x cls dd σ F' H' g.ff (r.base.gr g) i q
  cases d <;> try exact q.elim
  rename_i ys
  obtain ⟨v, fp, e1', o1, nd, out, fin⟩ := r.mut g hM e0
  rw [e1] at e1'; cases e1'
  obtain ⟨l', vs', r1', el, q1, q2, q3, rfl⟩ := own_lst o1
  cases el
  obtain ⟨b, us, rfl, k1, k2⟩ := k
  have hs : sizeLine = 16777216 := sizeLine_eq
  refine ⟨l, b, vs', us, rfl, rfl, q2, (hid_some (g.fh _ _ k1)).2, by rw [q3.len, k2.len, hs]; exact q.1, ?_⟩
  obtain ⟨nd1, nd2⟩ := List.nodup_cons.mp nd
  have keep : ∀ a o, a ≠ l → H1 a = some o → upd H1 l (.lst (vs' ++ us)) a = some o := fun a o ha e => by rw [upd_ne ha]; exact e
  have o2 := OwnL.append (OwnL.step (Ex.refl _) xs 0 vs' r1' (fun a ha => ⟨(OwnL.there _ _ _ _ q3 a ha).1, fun o e => keep a o (fun z => nd1 (z ▸ ha)) e⟩) q3) (OwnL.of (H := upd H1 l (.lst (vs' ++ us))) k2)
  rw [List.append_nil] at o2
  exact hn σ _ F1 _ g.ff (fin (upd H1 l (.lst (vs' ++ us))) (.lst (xs ++ ys)) (l :: r1') (fun a o ha e => keep a o (fun z => ha (by simp [z])) e) ⟨l, vs' ++ us, r1', rfl, q1, upd_same, o2, rfl⟩ nd fun a ha => .inl ha) q.2
/-- x[k] = e -/
def setIxW (i : Nat) (wk we : Env → W D) : Env → W Fl := fun ρ Q E => lstAt ρ i fun xs => we ρ (fun d => wk ρ (fun k => match k with | .int k => (match ixN xs.length k with | some j => Q (.next (ρ.set i (some (.lst (xs.set j d))))) | none => False) | _ => False) E) E
theorem ds_setIx {i : Nat} {x : Str} {e k : Expr} {we wk : Env → W D} (hM : ownAt M i = some 1) (hN : X.N[i]? = some x) (hv : Vis X.env.scope x) (he : DE X C M Wx .v e we) (hk : DE X C M Wx .v k wk) (hd : (x == ("__debug__" : Str)) = false := by decide) (hcd : (x == ("__classdict__" : Str)) = false := by decide)
    (hs : swapsWithSole [.Subscript (.Name x p2) k p3] e pos.line X.env = pure false := by rfl) (hw : swappedStores [.Subscript (.Name x p2) k p3] e X.env = pure none := by rfl) (h1 : (assignEach [.Subscript (.Name x p2) k p3] X.env).map (·.2) = [assign (.Subscript (.Name x p2) k p3) X.env] := by rfl)
    (ha : ∀ v, assign (.Subscript (.Name x p2) k p3) X.env v = (do
      let ov ← holding [v] (eval (.Name x p2) X.env)
      let iv ← holding [v, ov] (eval k X.env)
      standAt p3
      holding [v, ov, iv] (setItem ov iv v)
      release [v, ov, iv] []) := by intro _; rfl) : DS X C Ml rk Wx M M (.Assign [.Subscript (.Name x p2) k p3] e pos) (setIxW i wk we) := by
  obtain ⟨te, pe, se⟩ := he.ex
  obtain ⟨tk, pk, sk⟩ := hk.ex
  refine ⟨_, ps_asg pe (pg_sub (pe_var hN hv hd hcd) pk set_list ha) hs hw h1, fun F H σ ρ r Qd Ed D_ hw hn _ _ _ hx => ?_⟩
  obtain ⟨xs, e0, hw⟩ := lstAt_some hw
  obtain ⟨v, fp, e1, o1, _, _, _⟩ := r.mut (Gr.refl r.base.fh r.base.pool) hM e0
  refine se F H σ ρ r _ Ed _ hw (fun d u F1 H1 g k1 hw2 => ?_) fun x cls dd F' H' g i q => hx x cls dd σ F' H' g.ff (r.base.gr g) i q
  refine ⟨v, e1, ?_⟩
  refine sk F1 H1 σ ρ (r.gr g) _ Ed _ hw2 (fun d2 u2 F2 H2 g2 k2 hw3 => ?_) fun x cls dd F' H' g2 i q => hx x cls dd σ F' H' (g.trans g2).ff (r.base.gr (g.trans g2)) i q
  cases d2 <;> try exact hw3.elim
  rename_i kk
  have hw3 : match ixN xs.length kk with | some j => Qd (.next (ρ.set i (some (.lst (xs.set j d))))) | none => False := hw3
  split at hw3
  · rename_i j ej
    have g12 := g.trans g2
    obtain ⟨v', fp, e1', o1, nd, out, fin⟩ := r.mut g12 hM e0
    rw [e1] at e1'; cases e1'
    obtain ⟨l, vs, r1, rfl, q1, q2, q3, rfl⟩ := own_lst o1
    obtain ⟨nd1, nd2⟩ := List.nodup_cons.mp nd
    have hx0 : xs[j]? = some (xs[j]'(ixN_seq ej).2.1) := List.getElem?_eq_getElem _
    obtain ⟨v0, f0, e3, o3, nf, sub, k3⟩ := q3.at nd2 hx0
    have keep : ∀ a o, a ≠ l → H2 a = some o → upd H2 l (.lst (vs.set j u)) a = some o := fun a o ha e => by rw [upd_ne ha]; exact e
    obtain ⟨fp', o4, nd4, s4⟩ := k3 H2 d u [] (fun a o _ e => e) (OwnD.of (Is.mono g2.ff _ _ k1)) List.nodup_nil (by simp)
    refine ⟨l, vs, kk, j, rfl, k2, q2, by rw [q3.len]; exact ej, ?_⟩
    have sub' : ∀ a ∈ fp', a ∈ r1 := fun a ha => (s4 a ha).elim id fun z => by cases z
    refine hn σ _ F2 _ g12.ff (fin (upd H2 l (.lst (vs.set j u))) (.lst (xs.set j d)) (l :: fp') (fun a o ha e => keep a o (fun z => ha (by simp [z])) e) ⟨l, vs.set j u, fp', rfl, q1, upd_same, ?_, rfl⟩ (List.nodup_cons.mpr ⟨fun z => nd1 (sub' l z), nd4⟩) fun a ha => ?_) hw3
    · exact OwnL.step (Ex.refl _) _ 0 _ fp' (fun a ha => ⟨(OwnL.there _ _ _ _ q3 a (sub' a ha)).1, fun o e => keep a o (fun z => nd1 (z ▸ sub' a ha)) e⟩) o4
    · rcases List.mem_cons.mp ha with rfl | ha
      · exact .inl (by simp)
      · exact .inl (by simp [sub' a ha])
  · cases hw3
/-- x[k][m] = e, x a list of own lists -/
def setIx2W (i : Nat) (wk wm we : Env → W D) : Env → W Fl := fun ρ Q E => lstAt ρ i fun xs => we ρ (fun d => wk ρ (fun k => match k with
  | .int k => (match ixN xs.length k with
    | some j => (match xs[j]? with
      | some (.lst ys) => wm ρ (fun m => match m with
        | .int m => (match ixN ys.length m with | some j2 => Q (.next (ρ.set i (some (.lst (xs.set j (.lst (ys.set j2 d))))))) | none => False)
        | _ => False) E
      | _ => False)
    | none => False)
  | _ => False) E) E
theorem ds_setIx2 {i : Nat} {x : Str} {e k m : Expr} {p4 : Pos} {we wk wm : Env → W D} (hM : ownAt M i = some 2) (hN : X.N[i]? = some x) (hv : Vis X.env.scope x) (he : DE X C M Wx .v e we) (hk : DE X C M Wx .v k wk) (hm : DE X C M Wx .v m wm) (hpl : PlainIx k) (hd : (x == ("__debug__" : Str)) = false := by decide) (hcd : (x == ("__classdict__" : Str)) = false := by decide)
    (hs : swapsWithSole [.Subscript (.Subscript (.Name x p2) k p3) m p4] e pos.line X.env = pure false := by rfl) (hw : swappedStores [.Subscript (.Subscript (.Name x p2) k p3) m p4] e X.env = pure none := by rfl) (h1 : (assignEach [.Subscript (.Subscript (.Name x p2) k p3) m p4] X.env).map (·.2) = [assign (.Subscript (.Subscript (.Name x p2) k p3) m p4) X.env] := by rfl)
    (ha : ∀ v, assign (.Subscript (.Subscript (.Name x p2) k p3) m p4) X.env v = (do
      let ov ← holding [v] (eval (.Subscript (.Name x p2) k p3) X.env)
      let iv ← holding [v, ov] (eval m X.env)
      standAt p4
      holding [v, ov, iv] (setItem ov iv v)
      release [v, ov, iv] []) := by intro _; rfl) : DS X C Ml rk Wx M M (.Assign [.Subscript (.Subscript (.Name x p2) k p3) m p4] e pos) (setIx2W i wk wm we) := by
  obtain ⟨te, pe, se⟩ := he.ex
  obtain ⟨tk, pk, sk⟩ := hk.ex
  obtain ⟨tm, pm, sm⟩ := hm.ex
  refine ⟨_, ps_asg pe (pg_sub (pe_ix ix_list (pe_var hN hv hd hcd) pk hpl) pm set_list ha) hs hw h1, fun F H σ ρ r Qd Ed D_ hw hn _ _ _ hx => ?_⟩
  obtain ⟨xs, e0, hw⟩ := lstAt_some hw
  obtain ⟨v, fp, e1, o1, _, _, _⟩ := r.mut (Gr.refl r.base.fh r.base.pool) hM e0
  refine se F H σ ρ r _ Ed _ hw (fun d u F1 H1 g k1 hw2 => ?_) fun x cls dd F' H' g i q => hx x cls dd σ F' H' g.ff (r.base.gr g) i q
  refine ⟨v, e1, ?_⟩
  refine sk F1 H1 σ ρ (r.gr g) _ Ed _ hw2 (fun d2 u2 F2 H2 g2 k2 hw3 => ?_) fun x cls dd F' H' g2 i q => hx x cls dd σ F' H' (g.trans g2).ff (r.base.gr (g.trans g2)) i q
  cases d2 <;> try exact hw3.elim
  rename_i kk
  have hw3 : match ixN xs.length kk with
    | some j => (match xs[j]? with
      | some (.lst ys) => wm ρ (fun m => match m with
        | .int m => (match ixN ys.length m with | some j2 => Qd (.next (ρ.set i (some (.lst (xs.set j (.lst (ys.set j2 d))))))) | none => False)
        | _ => False) Ed
      | _ => False)
    | none => False := hw3
  split at hw3
  · rename_i j ej
    split at hw3
    · rename_i ys ey
      have g12 := g.trans g2
      obtain ⟨v', fp, e1', o1, nd, out, _⟩ := r.mut g12 hM e0
      rw [e1] at e1'; cases e1'
      obtain ⟨l, vs, r1, rfl, q1, q2, q3, rfl⟩ := own_lst o1
      obtain ⟨nd1, nd2⟩ := List.nodup_cons.mp nd
      obtain ⟨v0, f0, e3, o3, _, _, _⟩ := q3.at nd2 ey
      refine ⟨l, vs, kk, v0, rfl, k2, .inl (.inl q2), by unfold L2.atI; rw [q3.len, ej]; exact e3, ?_⟩
      refine sm F2 H2 σ ρ (r.gr g12) _ Ed _ hw3 (fun d3 u3 F3 H3 g3 k3 hw4 => ?_) fun x cls dd F' H' g3 i q => hx x cls dd σ F' H' (g12.trans g3).ff (r.base.gr (g12.trans g3)) i q
      cases d3 <;> try exact hw4.elim
      rename_i mm
      have hw4 : match ixN ys.length mm with | some j2 => Qd (.next (ρ.set i (some (.lst (xs.set j (.lst (ys.set j2 d))))))) | none => False := hw4
      split at hw4
      · rename_i j2 ej2
        have g13 := g12.trans g3
        obtain ⟨v', fp, e1', o1, nd, out, fin⟩ := r.mut g13 hM e0
        rw [e1] at e1'; cases e1'
        obtain ⟨l', vs', r1', el, q1, q2', q3', rfl⟩ := own_lst o1
        cases el
        have hvs : vs' = vs := by
          have := g3.hh l _ (by rw [hid_out (out l (by simp)).2.1]; exact q2)
          rw [q2'] at this
          cases this; rfl
        subst hvs
        obtain ⟨nd1, nd2⟩ := List.nodup_cons.mp nd
        obtain ⟨v0', f0, e3', o3, nf, sub, kk3⟩ := q3'.at nd2 ey
        rw [e3] at e3'; cases e3'
        obtain ⟨l2, us, s1, rfl, p1, p2, p3, rfl⟩ := own_lst o3
        obtain ⟨nf1, nf2⟩ := List.nodup_cons.mp nf
        have hx0 : ys[j2]? = some (ys[j2]'(ixN_seq ej2).2.1) := List.getElem?_eq_getElem _
        obtain ⟨w0, h0, e5, o5, ng, sub5, k5⟩ := p3.at nf2 hx0
        obtain ⟨s1', o6, nd6, s6⟩ := k5 H3 d u [] (fun a o _ e => e) (OwnD.of (Is.mono (g2.trans g3).ff _ _ k1)) List.nodup_nil (by simp)
        have sub' : ∀ a ∈ s1', a ∈ s1 := fun a ha => (s6 a ha).elim id fun z => by cases z
        have keep : ∀ a o, a ≠ l2 → H3 a = some o → upd H3 l2 (.lst (us.set j2 u)) a = some o := fun a o ha e => by rw [upd_ne ha]; exact e
        have own2 : OwnD (gx X C) F3 (upd H3 l2 (.lst (us.set j2 u))) (.lst (ys.set j2 d)) 1 (.ref l2) (l2 :: s1') := ⟨l2, us.set j2 u, s1', rfl, p1, upd_same, OwnL.step (Ex.refl _) _ 0 _ s1' (fun a ha => ⟨(OwnL.there _ _ _ _ p3 a (sub' a ha)).1, fun o e => keep a o (fun z => nf1 (z ▸ sub' a ha)) e⟩) o6, rfl⟩
        obtain ⟨fp', o7, nd7, s7⟩ := kk3 (upd H3 l2 (.lst (us.set j2 u))) (.lst (ys.set j2 d)) (.ref l2) (l2 :: s1') (fun a o ha e => keep a o (fun z => ha (by simp [z])) e) own2 (List.nodup_cons.mpr ⟨fun z => nf1 (sub' l2 z), nd6⟩) (fun a ha => .inl (by rcases List.mem_cons.mp ha with rfl | ha; simp; simp [sub' a ha]))
        have hset : vs'.set j (.ref l2) = vs' := by
          obtain ⟨hlt, he⟩ := List.getElem?_eq_some_iff.mp e3
          rw [← he]
          exact List.set_getElem_self hlt
        rw [hset] at o7
        have sub7 : ∀ a ∈ fp', a ∈ r1' := fun a ha => (s7 a ha).elim id fun z => sub a (by rcases List.mem_cons.mp z with rfl | z; simp; simp [sub' a z])
        have l2r : l2 ∈ r1' := sub l2 (by simp)
        refine ⟨l2, us, mm, j2, rfl, k3, p2, by rw [p3.len]; exact ej2, ?_⟩
        refine hn σ _ F3 _ g13.ff (fin (upd H3 l2 (.lst (us.set j2 u))) (.lst (xs.set j (.lst (ys.set j2 d)))) (l :: fp') (fun a o ha e => keep a o (fun z => ha (by simp [z, l2r])) e) ⟨l, vs', fp', rfl, q1, keep l _ (fun z => nd1 (z ▸ l2r)) q2', o7, rfl⟩ (List.nodup_cons.mpr ⟨fun z => nd1 (sub7 l z), nd7⟩) fun a ha => ?_) hw4
        rcases List.mem_cons.mp ha with rfl | ha
        · exact .inl (by simp)
        · exact .inl (by simp [sub7 a ha])
      · cases hw4
    · cases hw3
  · cases hw3

/-! dicts -/
theorem de_dnewK (n : Nat) : DE X C M Wx (.n (n + 1)) (.Dict [] [] pos) (cW (.dct [] [])) := by
  refine ⟨_, pe_dnewK, fun F H σ ρ s Qd Ed Q hw hq hx => fun p hp => ?_⟩
  exact hq (.dct [] []) (.ref p) F _ (Gr.laid s.base.fh s.base.pool hp) ⟨[p], ⟨p, [], [], rfl, (s.base.nofresh hp).1, upd_same, rfl, ⟨rfl, rfl⟩, rfl⟩, by simp, by simp [hp]⟩ hw
theorem de_dnewT (n : Nat) : DE X C M Wx (.n (n + 1)) (.Dict [] [] pos) (cW (.dtt [] [])) := by
  refine ⟨_, pe_dnewT, fun F H σ ρ s Qd Ed Q hw hq hx => fun p hp => ?_⟩
  exact hq (.dtt [] []) (.ref p) F _ (Gr.laid s.base.fh s.base.pool hp) ⟨[p], ⟨p, [], [], rfl, (s.base.nofresh hp).1, upd_same, rfl, ⟨rfl, rfl⟩, rfl⟩, by simp, by simp [hp]⟩ hw
def dctAt (ρ : Env) (i : Nat) (f : List Key → List D → Prop) : Prop := match ρ[i]? with | some (some (.dct ks ds)) => f ks ds | _ => False
theorem dctAt_some {ρ : Env} {i : Nat} {f : List Key → List D → Prop} (h : dctAt ρ i f) : ∃ ks ds, ρ[i]? = some (some (.dct ks ds)) ∧ f ks ds := by
  unfold dctAt at h
  split at h
  · exact ⟨_, _, by assumption, h⟩
  · cases h
/-- d[k] = e, e frozen -/
def putW (i : Nat) (wk we : Env → W D) : Env → W Fl := fun ρ Q E => dctAt ρ i fun ks ds => we ρ (fun d => wk ρ (fun y => match keyOf y with | some k => ks.length < 16777216 ∧ Q (.next (ρ.set i (some (.dct (putD ks ds k d).1 (putD ks ds k d).2)))) | none => False) E) E
theorem zero_own {G : Gx} {F H : Hp} : ∀ {ds : List D} {vs : List V} {fp : List Addr}, OwnL G F H ds 0 vs fp → IsL G F ds vs ∧ fp = []
  | [], _, _, h => h
  | d :: ds, _, _, h => by
    obtain ⟨v, r, f1, f2, rfl, h1, h2, rfl⟩ := h
    obtain ⟨q1, rfl⟩ := h1.zero
    obtain ⟨q2, rfl⟩ := zero_own h2
    exact ⟨⟨v, r, rfl, q1, q2⟩, rfl⟩
theorem ds_put {i : Nat} {x : Str} {e k : Expr} {we wk : Env → W D} (hu : X.A.units + 1 < cLine) (hM : ownAt M i = some 1) (hN : X.N[i]? = some x) (hv : Vis X.env.scope x) (he : DE X C M Wx .v e we) (hk : DE X C M Wx .v k wk) (hd : (x == ("__debug__" : Str)) = false := by decide) (hcd : (x == ("__classdict__" : Str)) = false := by decide)
    (hs : swapsWith e (some (.Subscript (.Name x p2) k p3)) pos.line X.env = pure false := by rfl) : DS X C Ml rk Wx M M (.Assign [.Subscript (.Name x p2) k p3] e pos) (putW i wk we) := by
  obtain ⟨te, pe, se⟩ := he.ex
  obtain ⟨tk, pk, sk⟩ := hk.ex
  refine ⟨_, ps_dput hu (pe_var hN hv hd hcd) pk pe hs, fun F H σ ρ r Qd Ed D_ hw hn _ _ _ hx => ?_⟩
  obtain ⟨ks, ds, e0, hw⟩ := dctAt_some hw
  obtain ⟨v, fp, e1, o1, _, _, _⟩ := r.mut (Gr.refl r.base.fh r.base.pool) hM e0
  refine se F H σ ρ r _ Ed _ hw (fun d u F1 H1 g k1 hw2 => ?_) fun x cls dd F' H' g i q => hx x cls dd σ F' H' g.ff (r.base.gr g) i q
  refine ⟨v, e1, ?_⟩
  refine sk F1 H1 σ ρ (r.gr g) _ Ed _ hw2 (fun d2 u2 F2 H2 g2 k2 hw3 => ?_) fun x cls dd F' H' g2 i q => hx x cls dd σ F' H' (g.trans g2).ff (r.base.gr (g.trans g2)) i q
  split at hw3
  · rename_i kk ek
    have g12 := g.trans g2
    obtain ⟨v', fp, e1', o1, nd, out, fin⟩ := r.mut g12 hM e0
    rw [e1] at e1'; cases e1'
    have o1 : ∃ l vs r, v = .ref l ∧ F2 l = none ∧ H2 l = some (.dK vs) ∧ vs.map Prod.fst = ks ∧ OwnL (gx X C) F2 H2 ds 0 (vs.map Prod.snd) r ∧ fp = l :: r := o1
    obtain ⟨l, vs, r1, rfl, q1, q2, q4, q3, rfl⟩ := o1
    obtain ⟨i3, rfl⟩ := zero_own q3
    have hs : sizeLine = 16777216 := sizeLine_eq
    have hlen : vs.length = ks.length := by rw [← q4, List.length_map]
    refine ⟨l, _, rfl, .inl ⟨vs, kk, q2, keyOf_v k2 ek, by rw [hlen, hs]; exact hw3.1, rfl⟩, ?_⟩
    subst q4
    refine hn σ _ F2 _ g12.ff (fin (upd H2 l (.dK (putK vs kk u))) (.dct _ _) [l] (fun a o ha e => by rw [upd_ne (fun z => ha (by simp [z]))]; exact e) ⟨l, putK vs kk u, [], rfl, q1, upd_same, putK_keys vs ds d, OwnL.of (putK_is (Is.mono g2.ff _ _ k1) i3), rfl⟩ nd fun a ha => .inl ha) hw3.2
  · cases hw3

/-! ### the rest of the statements -/
/-- x += e, whole numbers -/
def augW (i : Nat) (f : D → D → W D) (we : Env → W D) : Env → W Fl := fun ρ Q E => match ρ[i]? with | some (some x) => we ρ (fun y => f x y (fun d => Q (.next (ρ.set i (some d)))) E) E | _ => False
theorem ds_augAdd {i : Nat} {x : Str} {e : Expr} {we : Env → W D} (hN : X.N.Nodup) (hi : X.N[i]? = some x) (hx : Loc X.env.scope x) (h : DE X C M Wx .v e we) (hM : M[i]? = some .v)
    (hf : X.fn x = true ∨ X.env.scope.names.lookup x = some .local := by first | exact .inl rfl | exact .inr rfl | assumption) : DS X C Ml rk Wx M M (.AugAssign (.Name x p2) .Add e pos) (augW i (fun x y Q _ => match x, y with | .int a, .int b => Q (.int (a + b)) | _, _ => False) we) := by
  obtain ⟨te, p, s⟩ := h.ex
  refine ⟨_, ps_aug hN hi hx p ip_add hf, fun F H σ ρ r Qd Ed D_ hw hn _ _ _ hx => ?_⟩
  unfold augW at hw
  split at hw
  · rename_i d0 e0
    obtain ⟨m, v, fp, e1, e2, h1, _⟩ := r.get e0
    rw [hM] at e1; cases e1
    refine ⟨v, e2, ?_⟩
    refine s F H σ ρ r _ Ed _ hw (fun d u F' H' g k q => ?_) fun x cls dd F' H' g i q => hx x cls dd σ F' H' g.ff (r.base.gr g) i q
    cases d0 <;> try exact q.elim
    cases d <;> try exact q.elim
    rename_i a b
    refine ⟨a, b, h1.1, k, ?_⟩
    have s2 := (r.gr g).setV (i := i) (d := .int (a + b)) (v := .int (a + b)) (List.getElem?_eq_some_iff.mp hM).1 rfl
    rw [set_v hM] at s2
    exact hn _ _ F' H' g.ff s2 q
  · cases hw
/-- a, b = e -/
def asgTW (we : Env → W D) (t : D → Env → W Env) : Env → W Fl := fun ρ Q E => we ρ (fun d => t d ρ (fun ρ' => Q (.next ρ')) E) E
theorem ds_asgT {is : List Nat} {tg e : Expr} {we : Env → W D} {t : D → Env → W Env} (he : DE X C M Wx .v e we) (hg : DG X C M is tg t) (hs : swapsWithSole [tg] e pos.line X.env = pure false := by rfl) (hw : swappedStores [tg] e X.env = pure none := by rfl)
    (h1 : (assignEach [tg] X.env).map (·.2) = [assign tg X.env] := by rfl) : DS X C Ml rk Wx M M (.Assign [tg] e pos) (asgTW we t) := by
  obtain ⟨te, pe, se⟩ := he.ex
  obtain ⟨g, pg, sg⟩ := hg.ex
  refine ⟨_, ps_asg pe pg hs hw h1, fun F H σ ρ r Qd Ed D_ hw hn _ _ _ hx => ?_⟩
  refine se F H σ ρ r _ Ed _ hw (fun d v F1 H1 g1 k1 q => ?_) fun x cls dd F' H' g i q => hx x cls dd σ F' H' g.ff (r.base.gr g) i q
  exact sg F1 H1 σ ρ (r.gr g1) d v k1 _ Ed _ q fun σ' ρ' s' _ _ q' => hn σ' ρ' F1 H1 g1.ff s' q'
/-- a, b = e1, e2 -/
def parW (i j : Nat) (w1 w2 : Env → W D) : Env → W Fl := fun ρ Q E => w1 ρ (fun d1 => w2 ρ (fun d2 => Q (.next ((ρ.set i (some d1)).set j (some d2)))) E) E
def Md.ofK : Kd → Md
  | .n n => .o n
  | _ => .v
theorem ds_par {i j : Nat} {x y : Str} {a b : Expr} {k1 k2 : Kd} {w1 w2 : Env → W D} {px py pt : Pos} {kt kk pt2} (hc : X.calm = true) (hN : X.N.Nodup) (hi : X.N[i]? = some x) (hj : X.N[j]? = some y) (hij : i ≠ j)
    (hx : X.env.scope.names.lookup x = some .local) (hy : X.env.scope.names.lookup y = some .local) (ha : DE X C M Wx k1 a w1) (hb : DE X C M Wx k2 b w2) (h1 : k1.isR = false) (h2 : k2.isR = false) (hli : i < M.length) (hlj : j < M.length)
    (hw : swappedStores [.Tuple [.Name x px, .Name y py] kt pt] (.Tuple [a, b] kk pt2) X.env = pure (some [x, y]))
    (hs : swapsWithSole [.Tuple [.Name x px, .Name y py] kt pt] (.Tuple [a, b] kk pt2) pos.line X.env = pure false := by rfl)
    (hs1 : starEach [a, b] X.env = (false, eval a X.env) :: starEach [b] X.env := by rfl) (hs2 : starEach [b] X.env = (false, eval b X.env) :: starEach [] X.env := by rfl) :
    DS X C Ml rk Wx M ((M.set i (Md.ofK k1)).set j (Md.ofK k2)) (.Assign [.Tuple [.Name x px, .Name y py] kt pt] (.Tuple [a, b] kk pt2) pos) (parW i j w1 w2) := by
  obtain ⟨ta, pa, sa⟩ := ha.ex
  obtain ⟨tb, pb, sb⟩ := hb.ex
  refine ⟨_, ps_par hc hN hi hj hij hx hy (pa_cons pa (pa_cons pb pa_nil hs2) hs1) hw hs, fun F H σ ρ r Qd Ed D_ hw hn _ _ _ hx => ?_⟩
  refine sa F H σ ρ r _ Ed _ hw (fun d v F1 H1 g1 q1 hw2 => ?_) fun x cls dd F' H' g i q => hx x cls dd σ F' H' g.ff (r.base.gr g) i q
  refine sb F1 H1 σ ρ (r.gr g1) _ Ed _ hw2 (fun d2 v2 F2 H2 g2 q2 hw3 => ?_) fun x cls dd F' H' g2 i q => hx x cls dd σ F' H' (g1.trans g2).ff (r.base.gr (g1.trans g2)) i q
  refine ⟨v, v2, rfl, ?_⟩
  -- the first is stored ahead: its state at (F1, H1)
  have s1 : SR (gx X C) C (M.set i (Md.ofK k1)) F1 H1 (σ.set i (some v)) (ρ.set i (some d)) := by
    cases k1 with
    | v => exact (r.gr g1).setV hli q1
    | r => cases h1
    | n n => exact r.setO g1 hli q1
  have hlj' : j < (M.set i (Md.ofK k1)).length := by simpa using hlj
  refine hn _ _ F2 H2 (g1.trans g2).ff ?_ hw3
  cases k2 with
  | v => exact (s1.gr g2).setV hlj' q2
  | r => cases h2
  | n n => exact s1.setO g2 hlj' q2
end

/-! ### more expressions -/
section
variable {X : Cx} {C : Cf} {M : List Md} {Wx : WX} {pos apos cpos : Pos} {G : Gx}
def negW : D → W D := fun x Q _ => match x with | .int i => Q (.int (-i)) | _ => False
theorem de_neg {a : Expr} {wa : Env → W D} (ha : DE X C M Wx .v a wa) : DE X C M Wx .v (.UnaryOp .USub a pos) (unW negW wa) := by
  obtain ⟨te, p, s⟩ := ha.ex
  refine ⟨_, pe_un un_neg p, fun F H σ ρ r Qd Ed Q hw hq hx => ?_⟩
  refine s F H σ ρ r _ Ed _ hw (fun d v F1 H1 g1 i1 hw2 => ?_) hx
  cases d <;> try exact hw2.elim
  exact ⟨_, i1, hq (.int _) _ F1 H1 g1 rfl hw2⟩
/-- a op b op' c -/
def chainW (f f' : D → D → W D) (wa wb wc : Env → W D) : Env → W D := fun ρ Q E => wa ρ (fun x => wb ρ (fun y => f x y (fun z => match z with | .bl k => if k = true then wc ρ (fun w => f' y w Q E) E else Q (.bl false) | _ => False) E) E) E
theorem se_chain {hG : G.pl = C.pl} {r r' : R2} {f f' : D → D → W D} (hs : OpS G .v .v .v r f) (hs' : OpS G .v .v .v r' f') {ta tb tc : TE} {wa wb wc : Env → W D} (ha : SE G C M Wx .v ta wa) (hb : SE G C M Wx .v tb wb) (hc : SE G C M Wx .v tc wc) : SE G C M Wx .v (tChain r r' ta tb tc) (chainW f f' wa wb wc) := by
  intro F H σ ρ s Qd Ed Q hw hq hx
  refine ha F H σ ρ s _ Ed _ hw (fun d v F1 H1 g1 i1 hw2 => ?_) hx
  refine hb F1 H1 σ ρ (s.gr g1) _ Ed _ hw2 (fun d2 v2 F2 H2 g2 i2 hw3 => ?_) fun x cls dd F2 H2 g2 => hx x cls dd F2 H2 (g1.trans g2)
  have g12 := g1.trans g2
  refine hs F2 H2 (by rw [hG]; exact g2.fh) (by rw [hG]; exact g2.pool) d d2 v v2 (Is.mono g2.ff _ _ i1) i2 _ Ed _ hw3 fun d3 z F3 H3 g3 k3 q => ?_
  rw [hG] at g3
  cases d3 <;> try exact q.elim
  rename_i k
  refine ⟨k, k3, ?_⟩
  have g13 := g12.trans g3
  cases k with
  | false => exact hq (.bl false) _ F3 H3 g13 rfl q
  | true =>
    refine hc F3 H3 σ ρ (s.gr g13) _ Ed _ q (fun d4 v4 F4 H4 g4 i4 hw5 => ?_) fun x cls dd F2 H2 g2 => hx x cls dd F2 H2 (g13.trans g2)
    refine hs' F4 H4 (by rw [hG]; exact g4.fh) (by rw [hG]; exact g4.pool) d2 d4 v2 v4 (Is.mono (g3.trans g4).ff _ _ i2) i4 Qd Ed Q hw5 fun d5 z5 F5 H5 g5 k5 q5 => ?_
    rw [hG] at g5
    exact hq d5 z5 F5 H5 ((g13.trans g4).trans g5) k5 q5
theorem de_chain {op op' : CmpOp} {r r' : R2} {f f' : D → D → W D} {a b c : Expr} {wa wb wc : Env → W D} (ho : OpR X (compareOp op) r) (hs : OpS (gx X C) .v .v .v r f) (ho' : OpR X (compareOp op') r') (hs' : OpS (gx X C) .v .v .v r' f') (ha : DE X C M Wx .v a wa) (hb : DE X C M Wx .v b wb) (hc : DE X C M Wx .v c wc)
    (hm : lastMarks [op, op'] [b, c] = false := by with_unfolding_all rfl) : DE X C M Wx .v (.Compare a [op, op'] [b, c] pos) (chainW f f' wa wb wc) := by
  obtain ⟨ta, pa, sa⟩ := ha.ex
  obtain ⟨tb, pb, sb⟩ := hb.ex
  obtain ⟨tc, pc, sc⟩ := hc.ex
  exact ⟨_, pe_chain ho ho' pa pb pc hm, se_chain (hG := rfl) hs hs' sa sb sc⟩
theorem dt_chain {op op' : CmpOp} {r r' : R2} {f f' : D → D → W D} {a b c : Expr} {wa wb wc : Env → W D} (ho : OpR X (compareOp op) r) (hs : OpS (gx X C) .v .v .v r f) (ho' : OpR X (compareOp op') r') (hs' : OpS (gx X C) .v .v .v r' f') (ha : DE X C M Wx .v a wa) (hb : DE X C M Wx .v b wb) (hc : DE X C M Wx .v c wc)
    (hm : lastMarks [op, op'] [b, c] = false := by with_unfolding_all rfl) : DT X C M Wx (.Compare a [op, op'] [b, c] pos) (blW (chainW f f' wa wb wc)) := by
  obtain ⟨ta, pa, sa⟩ := ha.ex
  obtain ⟨tb, pb, sb⟩ := hb.ex
  obtain ⟨tc, pc, sc⟩ := hc.ex
  exact ⟨_, pt_chain ho ho' pa pb pc hm, st_bl (se_chain (hG := rfl) hs hs' sa sb sc)⟩
/-- t * k -/
def repW : D → D → W D := fun x y Q _ => match x, y with | .tup xs, .int k => xs ≠ [] ∧ 2 ≤ k ∧ k ≤ 1000 ∧ xs.length ≤ 1000 ∧ Q (.tup (List.replicate k.toNat xs).flatten) | _, _ => False
theorem IsL.rep {F : Hp} {ds : List D} {vs : List V} (h : IsL G F ds vs) : ∀ n : Nat, IsL G F (List.replicate n ds).flatten (List.replicate n vs).flatten
  | 0 => rfl
  | n + 1 => by
    rw [List.replicate_succ, List.replicate_succ, List.flatten_cons, List.flatten_cons]
    exact h.append (IsL.rep h n)
theorem ops_repT : OpS G .v .v .v (rRepT G.K) repW := by
  intro F H fh po x y v u hx hy Qd Ed Q hw hq
  cases x <;> try exact hw.elim
  cases y <;> try exact hw.elim
  rename_i xs k
  obtain ⟨h1, h2, h3, h4, q⟩ := hw
  obtain ⟨a, vs, rfl, t1, t2⟩ := hx
  refine ⟨a, k, vs, rfl, hy, .inl (.inl (hid_some (fh _ _ t1)).2), fun e => h1 ?_, h2, h3, by rw [t2.len]; exact h4, fun p hp => fin_tup fh po hq (t2.rep _) q hp⟩
  have := t2.len
  rw [e] at this
  exact List.length_eq_zero_iff.mp this.symm
end
end DL

namespace DL
open PySem PySem.Spec PyProof.Rows L2

/-! ### what is read, frozen where it holds no list -/
section
variable {X : Cx} {C : Cf} {Ml M : List Md} {rk : Kd} {Wx : WX} {pos apos cpos p2 p3 : Pos} {G : Gx}
def upW (we : Env → W D) : Env → W D := fun ρ Q E => we ρ (fun d => im d = true ∧ Q d) E
theorem de_up {e : Expr} {we : Env → W D} (h : DE X C M Wx .r e we) : DE X C M Wx .v e (upW we) := by
  obtain ⟨te, p, s⟩ := h.ex
  refine ⟨te, p, fun F H σ ρ r Qd Ed Q hw hq hx => ?_⟩
  refine s F H σ ρ r _ Ed _ hw (fun d v F1 H1 g k q => ?_) hx
  exact hq d v _ H1 (g.trans (Gr.tps g.fh g.pool)) (Is.up g.fh q.1 (Is.mono hid_ex _ _ k)) q.2
theorem de_fldR {e : Expr} {f : Str} {k : Kd} {we : Env → W D} (cs : List Str) (hc : ∀ c ∈ cs, FldOk X.K X.mg c f) (he : DE X C M Wx k e we) (hk : k.isN = false := by rfl) (hb : attributeBase e f X.env (eval e X.env) = eval e X.env := by rfl) : DE X C M Wx .r (.Attribute e f pos) (unW (fldW cs f) we) := by
  obtain ⟨te, p, s⟩ := he.ex
  refine ⟨_, pe_fld p hb, fun F H σ ρ r Qd Ed Q hw hq hx => ?_⟩
  refine s F H σ ρ r _ Ed _ hw (fun d v F1 H1 g1 i1 hw2 => ?_) hx
  have i1 := (KIn.of hk i1).ih (G := gx X C) g1.fh
  unfold fldW at hw2
  split at hw2
  · rename_i d2 e2
    cases d with
    | obj c ns ds =>
      have e2 : (if cs.contains c = true then lookS f ns ds else none) = some d2 := e2
      by_cases hcc : cs.contains c = true
      · rw [if_pos hcc] at e2
        obtain ⟨a, Cl, dx, vs, rfl, h1, h0, h2, h3⟩ := i1
        obtain ⟨c1, n1⟩ := (hc c (by simpa using hcc)).ex Cl h0
        subst h2
        obtain ⟨v, l, i⟩ := lookS_of h3 e2
        exact ⟨a, Cl, dx, vs, v, rfl, (hid_some h1).2, c1, n1, l, hq d2 v F1 H1 g1 i hw2⟩
      · rw [if_neg hcc] at e2; cases e2
    | _ => cases e2
  · cases hw2

/-! ### levels -/
def lvlOk (n : Nat) (k : Kd) (d : D) : Prop := k.lvl = n ∨ (canOwn d = false)
theorem KOk.lift {B F H : Hp} {k : Kd} (hk : k.isR = false) {d : D} {v : V} {n : Nat} (h : KOk G B F H k d v) (hl : lvlOk n k d) : ∃ fp, OwnD G F H d n v fp ∧ fp.Nodup ∧ ∀ l ∈ fp, B l = none := by
  rcases hl with hl | hl
  · obtain ⟨fp, o, q⟩ := h.own hk
    rw [hl] at o
    exact ⟨fp, o, q⟩
  · obtain ⟨fp, o, nd, q⟩ := h.own hk
    have hi : Is G F d v ∧ fp = [] := by cases d <;> first | exact o | cases hl
    exact ⟨[], OwnD.any hl n hi.1, List.nodup_nil, by simp⟩

/-! ### objects that are owned -/
def objAt (ρ : Env) (i : Nat) (cs : List Str) (f : Str → List Str → List D → Prop) : Prop := match ρ[i]? with | some (some (.obj c ns ds)) => c ∈ cs ∧ f c ns ds | _ => False
theorem objAt_some {ρ : Env} {i : Nat} {cs : List Str} {f : Str → List Str → List D → Prop} (h : objAt ρ i cs f) : ∃ c ns ds, ρ[i]? = some (some (.obj c ns ds)) ∧ c ∈ cs ∧ f c ns ds := by
  unfold objAt at h
  split at h
  · exact ⟨_, _, _, by assumption, h⟩
  · cases h
/-- a field's place -/
def idxS (f : Str) : List Str → Option Nat
  | [] => none
  | n :: ns => if (f == n) = true then some 0 else (idxS f ns).map (· + 1)
def putF' (f : Str) (d : D) (ns : List Str) (ds : List D) : List Str × List D := match idxS f ns with | some j => (ns, ds.set j d) | none => (ns ++ [f], ds ++ [d])
theorem idxS_lt {f : Str} : ∀ {ns : List Str} {j : Nat}, idxS f ns = some j → j < ns.length
  | n :: ns, j, h => by
    unfold idxS at h
    split at h
    · cases h; simp
    · rw [Option.map_eq_some_iff] at h
      obtain ⟨k, h, rfl⟩ := h
      have := idxS_lt h
      simp; omega
theorem putF_map {f : Str} {v : V} : ∀ vs : List (Str × V), (putF f v vs).map Prod.fst = (match idxS f (vs.map Prod.fst) with | some _ => vs.map Prod.fst | none => vs.map Prod.fst ++ [f]) ∧
    (putF f v vs).map Prod.snd = (match idxS f (vs.map Prod.fst) with | some j => (vs.map Prod.snd).set j v | none => vs.map Prod.snd ++ [v])
  | [] => ⟨rfl, rfl⟩
  | (g, x) :: r => by
    have ih := putF_map (f := f) (v := v) r
    unfold putF
    by_cases h : g = f
    · subst h
      have hb : (g == g) = true := beq_self_eq_true g
      rw [if_pos rfl]
      simp [idxS, hb]
    · have hb : (f == g) = false := beq_eq_false_iff_ne.mpr fun e => h e.symm
      rw [if_neg h]
      simp only [List.map_cons, idxS, hb, Bool.false_eq_true, if_false]
      rw [ih.1, ih.2]
      cases idxS f (r.map Prod.fst) with
      | none => exact ⟨rfl, rfl⟩
      | some j => exact ⟨rfl, rfl⟩
/-- self.f = e -/
def setFldW (i : Nat) (cs : List Str) (f : Str) (n : Nat) (ke : Kd) (we : Env → W D) : Env → W Fl := fun ρ Q E => objAt ρ i cs fun c ns ds => we ρ (fun d => lvlOk n ke d ∧ ns.length < 900 ∧ Q (.next (ρ.set i (some (.obj c (putF' f d ns ds).1 (putF' f d ns ds).2))))) E
theorem own_obj {F H : Hp} {c : Str} {ns : List Str} {ds : List D} {n : Nat} {v : V} {fp : List Addr} (h : OwnD G F H (.obj c ns ds) (n + 1) v fp) : ∃ l C dx vs r, v = .ref l ∧ F l = none ∧ H l = some (.ins C dx vs) ∧ G.mg c = some (.ref C) ∧ vs.map Prod.fst = ns ∧ OwnL G F H ds n (vs.map Prod.snd) r ∧ fp = l :: r := h
theorem ds_setFld {i n : Nat} {cs : List Str} {x f : Str} {e : Expr} {ke : Kd} {we : Env → W D} (hM : ownAt M i = some (n + 1)) (hN : X.N[i]? = some x) (hv : Vis X.env.scope x) (hc : ∀ c ∈ cs, FldOk X.K X.mg c f) (he : DE X C M Wx ke e we) (hke : ke.isR = false := by rfl) (hd : (x == ("__debug__" : Str)) = false := by decide) (hcd : (x == ("__classdict__" : Str)) = false := by decide)
    (hs : swapsWith e (some (.Attribute (.Name x p2) f p3)) pos.line X.env = pure false := by rfl) : DS X C Ml rk Wx M M (.Assign [.Attribute (.Name x p2) f p3] e pos) (setFldW i cs f n ke we) := by
  obtain ⟨te, pe, se⟩ := he.ex
  refine ⟨_, ps_fld (pe_var hN hv hd hcd) pe hs, fun F H σ ρ r Qd Ed D_ hw hn _ _ _ hx => ?_⟩
  obtain ⟨c, ns, ds, e0, hcc, hw⟩ := objAt_some hw
  refine se F H σ ρ r _ Ed _ hw (fun d u F1 H1 g k q => ?_) fun x cls dd F' H' g i q => hx x cls dd σ F' H' g.ff (r.base.gr g) i q
  obtain ⟨v, fp, e1, o1, nd, out, fin⟩ := r.mut g hM e0
  obtain ⟨l, Cl, dx, vs, r1, rfl, q1, q2, q5, q4, q3, rfl⟩ := own_obj o1
  obtain ⟨c1, n1⟩ := (hc c hcc).ex Cl q5
  obtain ⟨hlv, hsz, q⟩ := q
  obtain ⟨fn, on, ndn, frn⟩ := k.lift hke hlv
  have hvl : vs.length = ns.length := by rw [← q4, List.length_map]
  refine ⟨.ref l, e1, l, Cl, dx, vs, rfl, q2, c1, n1, by rw [hvl]; omega, ?_⟩
  obtain ⟨nd1, nd2⟩ := List.nodup_cons.mp nd
  have frl : ∀ a ∈ fn, a ≠ l := fun a ha z => by
    obtain ⟨o, eo⟩ := (out l (by simp)).2.2
    have := frn a ha
    rw [z, eo] at this; cases this
  have frr : ∀ a ∈ fn, a ∉ r1 := fun a ha z => by
    obtain ⟨o, eo⟩ := (out a (by simp [z])).2.2
    have := frn a ha
    rw [eo] at this; cases this
  have keep : ∀ a o, a ≠ l → H1 a = some o → upd H1 l (.ins Cl dx (putF f u vs)) a = some o := fun a o ha e => by rw [upd_ne ha]; exact e
  obtain ⟨pm1, pm2⟩ := putF_map (f := f) (v := u) vs
  have key : ∃ rr, OwnL (gx X C) F1 (upd H1 l (.ins Cl dx (putF f u vs))) (putF' f d ns ds).2 n ((putF f u vs).map Prod.snd) rr ∧ rr.Nodup ∧ l ∉ rr ∧ (putF f u vs).map Prod.fst = (putF' f d ns ds).1 ∧ ∀ a ∈ rr, a ∈ r1 ∨ a ∈ fn := by
    rw [pm1, pm2, q4]
    unfold putF'
    cases hidx : idxS f ns with
    | none =>
      refine ⟨r1 ++ fn, ?_, List.nodup_append.mpr ⟨nd2, ndn, fun a ha b hb e => frr b hb (e ▸ ha)⟩, fun z => ?_, rfl, fun a ha => List.mem_append.mp ha⟩
      · exact OwnL.app (OwnL.step (Ex.refl _) ds n _ r1 (fun a ha => ⟨(OwnL.there _ _ _ _ q3 a ha).1, fun o e => keep a o (fun z => nd1 (z ▸ ha)) e⟩) q3) (OwnD.step (Ex.refl _) d n u fn (fun a ha => ⟨(OwnD.there _ _ _ _ on a ha).1, fun o e => keep a o (frl a ha) e⟩) on)
      · rcases List.mem_append.mp z with z | z
        · exact nd1 z
        · exact frl l z rfl
    | some j =>
      have hj : j < ds.length := by
        have := q3.len
        rw [List.length_map, hvl] at this
        rw [← this]
        exact idxS_lt hidx
      obtain ⟨v0, f0, e3, o3, nf, sub, k3⟩ := q3.at nd2 (List.getElem?_eq_getElem hj)
      obtain ⟨fp', o4, nd4, s4⟩ := k3 H1 d u fn (fun a o _ e => e) on ndn fun a ha => .inr (frr a ha)
      refine ⟨fp', OwnL.step (Ex.refl _) _ n _ fp' (fun a ha => ⟨(OwnL.there _ _ _ _ o4 a ha).1, fun o e => keep a o (fun z => ?_) e⟩) o4, nd4, fun z => ?_, rfl, s4⟩
      · rcases s4 a ha with y | y
        · exact nd1 (z ▸ y)
        · exact frl a y z
      · rcases s4 l z with y | y
        · exact nd1 y
        · exact frl l y rfl
  obtain ⟨rr, o5, nd5, l5, e5, s5⟩ := key
  refine hn σ _ F1 _ g.ff (fin (upd H1 l (.ins Cl dx (putF f u vs))) (.obj c _ _) (l :: rr) (fun a o ha e => keep a o (fun z => ha (by simp [z])) e) ⟨l, Cl, dx, putF f u vs, rr, rfl, q1, upd_same, q5, e5, o5, rfl⟩ (List.nodup_cons.mpr ⟨l5, nd5⟩) fun a ha => ?_) q
  rcases List.mem_cons.mp ha with rfl | ha
  · exact .inl (by simp)
  · rcases s5 a ha with y | y
    · exact .inl (by simp [y])
    · exact .inr (frn a y)
/-- self.f.append(e) -/
def fldAppendW (i : Nat) (cs : List Str) (f : Str) (n : Nat) (ke : Kd) (we : Env → W D) : Env → W Fl := fun ρ Q E => objAt ρ i cs fun c ns ds => match idxS f ns with
  | some j => (match ds[j]? with
    | some (.lst xs) => we ρ (fun d => lvlOk n ke d ∧ xs.length < 16777216 ∧ Q (.next (ρ.set i (some (.obj c ns (ds.set j (.lst (xs ++ [d])))))))) E
    | _ => False)
  | none => False
theorem lookup_idx {f : Str} : ∀ {vs : List (Str × V)} {j : Nat}, idxS f (vs.map Prod.fst) = some j → ∃ v, (vs.map Prod.snd)[j]? = some v ∧ vs.lookup f = some v
  | (g, x) :: r, j, h => by
    simp only [List.map_cons, idxS] at h
    by_cases hb : (f == g) = true
    · rw [if_pos hb] at h
      cases h
      exact ⟨x, rfl, by rw [List.lookup_cons, hb]⟩
    · rw [if_neg hb, Option.map_eq_some_iff] at h
      obtain ⟨k, h, rfl⟩ := h
      obtain ⟨v, h1, h2⟩ := lookup_idx h
      simp only [Bool.not_eq_true] at hb
      exact ⟨v, by simpa using h1, by rw [List.lookup_cons, hb]; exact h2⟩
theorem ds_fldAppend {i n : Nat} {cs : List Str} {x f : Str} {e : Expr} {ke : Kd} {we : Env → W D} (hM : ownAt M i = some (n + 2)) (hN : X.N[i]? = some x) (hv : Vis X.env.scope x) (hc : ∀ c ∈ cs, FldOk X.K X.mg c f) (he : DE X C M Wx ke e we) (hke : ke.isR = false := by rfl) (hd : (x == ("__debug__" : Str)) = false := by decide) (hcd : (x == ("__classdict__" : Str)) = false := by decide)
    (hfew : ((backTo cpos (starEach [e] X.env)).all (fun x => !x.1) && (backToKw cpos (keywordEach [] X.env)).all (fun x => x.1.isSome)
      && decide (([e] : List Expr).length + ([] : List Keyword).length + (if ([] : List Keyword).isEmpty then 0 else 1) < 30)) = true := by rfl)
    (hline : (apos.endLine == cpos.line) = true := by rfl) (hst : starEach [e] X.env = (false, eval e X.env) :: starEach [] X.env := by rfl) (hb0 : attributeBase (.Name x p2) f X.env (eval (.Name x p2) X.env) = eval (.Name x p2) X.env := by rfl)
    (hbase : attributeBase (.Attribute (.Name x p2) f p3) "append" X.env (eval (.Attribute (.Name x p2) f p3) X.env) = eval (.Attribute (.Name x p2) f p3) X.env := by rfl) (hs : swapsWith (.Call (.Attribute (.Attribute (.Name x p2) f p3) "append" apos) [e] [] cpos) none pos.line X.env = pure false := by rfl) :
    DS X C Ml rk Wx M M (.Expr (.Call (.Attribute (.Attribute (.Name x p2) f p3) "append" apos) [e] [] cpos) pos) (fldAppendW i cs f n ke we) := by
  obtain ⟨te, pe, se⟩ := he.ex
  refine ⟨_, ps_expr (pe_bm PySem.F.plainAttrs_list PySem.F.slot_list_append PySem.F.type_list_append mt_append (pe_fld (pe_var hN hv hd hcd) hb0) (pa_cons pe pa_nil hst) hbase hfew hline hst rfl) hs, fun F H σ ρ r Qd Ed D_ hw hn _ _ _ hx => ?_⟩
  obtain ⟨c, ns, ds, e0, hcc, hw⟩ := objAt_some hw
  split at hw
  · rename_i j ej
    split at hw
    · rename_i xs ex
      obtain ⟨v, fp, e1, o1, nd, _, _⟩ := r.mut (Gr.refl r.base.fh r.base.pool) hM e0
      obtain ⟨l, Cl, dx, vs, r1, rfl, q1, q2, m1, q4, q3, rfl⟩ := own_obj o1
      obtain ⟨c1, n1⟩ := (hc c hcc).ex Cl m1
      obtain ⟨nd1, nd2⟩ := List.nodup_cons.mp nd
      subst q4
      obtain ⟨v0, h0, hl0⟩ := lookup_idx ej
      obtain ⟨v0', f0, e3, o3, _, _, _⟩ := q3.at nd2 ex
      rw [h0] at e3; cases e3
      obtain ⟨l2, us, s1, rfl, p1, p2', p3', rfl⟩ := own_lst o3
      refine ⟨.ref l, e1, l, Cl, dx, vs, .ref l2, rfl, q2, c1, n1, hl0, .inl ⟨rfl, us, .inl (.inl p2')⟩, ?_⟩
      refine se F H σ ρ r _ Ed _ hw (fun d u F1 H1 g k q => ?_) fun x cls dd F' H' g i q => hx x cls dd σ F' H' g.ff (r.base.gr g) i q
      obtain ⟨v, fp, e1', o1, nd, out, fin⟩ := r.mut g hM e0
      rw [e1] at e1'; cases e1'
      obtain ⟨l', C3, dx', vs', r1', el, q1, q2', q5, q4', q3', rfl⟩ := own_obj o1
      cases el
      rw [m1] at q5
      cases q5
      have hvs : dx' = dx ∧ vs' = vs := by
        have := g.hh l _ (by rw [hid_out (out l (by simp)).2.1]; exact q2)
        rw [q2'] at this
        cases this; exact ⟨rfl, rfl⟩
      obtain ⟨rfl, rfl⟩ := hvs
      obtain ⟨nd1, nd2⟩ := List.nodup_cons.mp nd
      obtain ⟨v0', f0, e3, o3, nf, sub, k3⟩ := q3'.at nd2 ex
      rw [h0] at e3; cases e3
      obtain ⟨l2', us', s1', el2, p1, p2, p3, rfl⟩ := own_lst o3
      cases el2
      obtain ⟨nf1, nf2⟩ := List.nodup_cons.mp nf
      obtain ⟨hlv, hsz, q⟩ := q
      obtain ⟨fn, on, ndn, frn⟩ := k.lift hke hlv
      have hs : sizeLine = 16777216 := sizeLine_eq
      refine ⟨l2, us', u, rfl, rfl, p2, by rw [p3.len, hs]; exact hsz, ?_⟩
      have frx : ∀ a ∈ fn, a ∉ l :: r1' := fun a ha z => by
        obtain ⟨o, eo⟩ := (out a z).2.2
        have := frn a ha
        rw [eo] at this; cases this
      have l2r : l2 ∈ r1' := sub l2 (by simp)
      have keep : ∀ a o, a ≠ l2 → H1 a = some o → upd H1 l2 (.lst (us' ++ [u])) a = some o := fun a o ha e => by rw [upd_ne ha]; exact e
      have frl2 : ∀ a ∈ fn, a ≠ l2 := fun a ha z => frx a ha (by simp [z, l2r])
      have own2 : OwnD (gx X C) F1 (upd H1 l2 (.lst (us' ++ [u]))) (.lst (xs ++ [d])) (n + 1) (.ref l2) (l2 :: (s1' ++ fn)) := ⟨l2, us' ++ [u], s1' ++ fn, rfl, p1, upd_same, OwnL.app (OwnL.step (Ex.refl _) xs n _ s1' (fun a ha => ⟨(OwnL.there _ _ _ _ p3 a ha).1, fun o e => keep a o (fun z => nf1 (z ▸ ha)) e⟩) p3) (OwnD.step (Ex.refl _) d n u fn (fun a ha => ⟨(OwnD.there _ _ _ _ on a ha).1, fun o e => keep a o (frl2 a ha) e⟩) on), rfl⟩
      have s1sub : ∀ a ∈ s1', a ∈ r1' := fun a ha => sub a (by simp [ha])
      obtain ⟨fp', o7, nd7, s7⟩ := k3 (upd H1 l2 (.lst (us' ++ [u]))) (.lst (xs ++ [d])) (.ref l2) (l2 :: (s1' ++ fn)) (fun a o ha e => keep a o (fun z => ha (by simp [z])) e) own2
        (List.nodup_cons.mpr ⟨fun z => (List.mem_append.mp z).elim nf1 (fun y => frl2 l2 y rfl), List.nodup_append.mpr ⟨nf2, ndn, fun a ha b hb e => frx b hb (by rw [← e]; simp [s1sub a ha])⟩⟩)
        (fun a ha => by
          rcases List.mem_cons.mp ha with rfl | ha
          · exact .inl (by simp)
          · rcases List.mem_append.mp ha with ha | ha
            · exact .inl (by simp [ha])
            · exact .inr fun z => frx a ha (by simp [z]))
      have hset : (vs'.map Prod.snd).set j (.ref l2) = vs'.map Prod.snd := by
        obtain ⟨hlt, he⟩ := List.getElem?_eq_some_iff.mp h0
        rw [← he]
        exact List.set_getElem_self hlt
      rw [hset] at o7
      have l7 : l ∉ fp' := fun z => by
        rcases s7 l z with y | y
        · exact nd1 y
        · rcases List.mem_cons.mp y with y | y
          · exact nd1 (by rw [y]; exact l2r)
          · rcases List.mem_append.mp y with y | y
            · exact nd1 (s1sub l y)
            · exact frx l y (by simp)
      refine hn σ _ F1 _ g.ff (fin (upd H1 l2 (.lst (us' ++ [u]))) (.obj c _ _) (l :: fp') (fun a o ha e => keep a o (fun z => ha (by simp [z, l2r])) e) ⟨l, Cl, dx', vs', fp', rfl, q1, keep l _ (fun z => nd1 (z ▸ l2r)) q2', m1, rfl, o7, rfl⟩ (List.nodup_cons.mpr ⟨l7, nd7⟩) fun a ha => ?_) q
      rcases List.mem_cons.mp ha with rfl | ha
      · exact .inl (by simp)
      · rcases s7 a ha with y | y
        · exact .inl (by simp [y])
        · rcases List.mem_cons.mp y with y | y
          · exact .inl (by simp [y, l2r])
          · rcases List.mem_append.mp y with y | y
            · exact .inl (by simp [s1sub a y])
            · exact .inr (frn a y)
    · cases hw
  · cases hw

/-! ### methods that change their self; making an object -/
/-- self at level n, ahead of the others; at the end self's new data -/
def SpM (K : PySem.W.Frag) (mg : Str → Option Value) (n : Nat) (ar : List Md) (w : List D → W D) : Sp := fun vs H Q E => ∃ (pl : List Addr) (F : Hp) (v0 : V) (vs' : List V) (self : D) (fp : List Addr) (ds : List D), vs = v0 :: vs' ∧ Ex F (hid pl H) ∧ PoolOk pl H ∧
  OwnD ⟨K, mg, pl⟩ F H self n v0 fp ∧ fp.Nodup ∧ (∀ l ∈ fp, l ∉ pl) ∧ ArgsOk ⟨K, mg, pl⟩ F (hid fp H) ar ds vs' ∧ ∃ (Qd : D → Prop) (Ed : Xn → Prop), w (self :: ds) Qd Ed ∧
  (∀ self' F' H' fp', Gr pl F (hid fp H) F' H' → OwnD ⟨K, mg, pl⟩ F' H' self' n v0 fp' → fp'.Nodup → (∀ l ∈ fp', hid fp H l = none) → Qd self' → Q .non H') ∧ (∀ x cls dd F' H', Gr pl F (hid fp H) F' H' → IsX ⟨K, mg, pl⟩ F' H' x cls dd → Ed x → E cls dd H')
structure FnM (P : Program) (w : World) (K : PySem.W.Frag) (mg : Str → Option Value) (base : Heap) (f : Addr) (k n : Nat) (ar : List Md) (m : List D → W D) : Prop where
  ex : ∃ (fd : FuncData) (ps : List Str), Binds K fd ps [] ∧ FnOk P w K mg base (L2.CX P w) k f fd ps (SpM K mg n ar m)
/-- the body's end with self -/
def runM (n : Nat) (body : Env → W Fl) : List D → W D := fun ds Q E => body (ds.map some ++ List.replicate (n - ds.length) none) (fun f => match f with | .next ρ => (match ρ[0]? with | some (some d) => Q d | _ => False) | _ => False) E
theorem hid_hid2 {pl fp : List Addr} {F H : Hp} (h : Ex F (hid pl H)) (k : ∀ l ∈ fp, F l = none) : Ex F (hid pl (hid fp H)) := fun a o e => by
  obtain ⟨h1, h2⟩ := hid_some (h a o e)
  rw [hid_out h1, hid_out fun z => by rw [k a z] at e; cases e]
  exact h2
theorem PoolOk.hidM {pl fp : List Addr} {H : Hp} (h : PoolOk pl H) (k : ∀ l ∈ fp, l ∉ pl) : PoolOk pl (hid fp H) := h.keep fun a ha o e => by rw [hid_out fun z => k a z ha]; exact e
/-- where a method's own address is -/
structure MethOk (K : PySem.W.Frag) (mg : Str → Option Value) (c name qual : Str) (st : Stmt) (f : Addr) : Prop where
  ex : ∃ (fd : FuncData) (Cl : Addr), FunD K name qual (defArgs st) (defBody st) (defScope st) [] [] f fd ∧ mg c = some (.ref Cl) ∧ Meth K Cl name f ∧ Cls K Cl
theorem fn_m {P : Program} {w : World} {K : PySem.W.Frag} {mg : Str → Option Value} {base : Heap} {x qual : Str} {st : Stmt} {N ps : List Str} {k lv : Nat} {ar : List Md} {m : Env → W Fl} {f : Addr} {fd : FuncData} (Fd : FunD K x qual (defArgs st) (defBody st) (defScope st) [] [] f fd) (S : FnScope N ps (defScope st)) (n : Nat) (hn : N.length = n) (hps : ps.length = ar.length + 1)
    (hb : ∀ (kV doc pm : Value) (an : Option Addr) (cdv ct : Value) (us : List Value), us.length = ps.length → bindArgs (PySem.W.fnOf x qual (defArgs st) (defBody st) (defScope st) .none kV doc pm an cdv ct) ⟨us, []⟩ = pure (ps.zip us)) (hle : ar.length + 1 ≤ n)
    (hbody : ∀ (f : Addr) (cdv : Value) (A : Around) (outer : List PySem.Env) (s : Shared) (pl fp : List Addr) (F H : Hp) (E : XK) (u : V), Room k (A.deeper (envOfC qual (defScope st) s.heap.objs.size f cdv)) →
      ∃ M', M'[0]? = some (.p lv u) ∧ DSs (cxOf (L2.CX P w) P w K mg base N qual (defScope st) f cdv A outer s H E) ⟨pl, F, hid fp H⟩ ((.p lv u :: ar) ++ List.replicate (n - (ar.length + 1)) .v) .v (fun cls dd _ H => E cls dd H) ((.p lv u :: ar) ++ List.replicate (n - (ar.length + 1)) .v) M' (defBody st) m) :
    FnM P w K mg base f (k + 1) lv ar (runM n m) := by
  have Fu := fun_of Fd
  refine ⟨fd, ps, Fu.binds hb, Fu.okX S (fun vs H Q E h => ?_) fun cdv A outer s H vs Q E hr h => ?_⟩
  · obtain ⟨pl, F, v0, vs', self, fp, ds, rfl, _, _, _, _, _, a, _⟩ := h
    rw [List.length_cons, a.len.1, hps]
  · obtain ⟨pl, F, v0, vs', self, fp, ds, rfl, fh, po, own, nd, dis, a, Qd, Ed, hw, h1, h2⟩ := h
    obtain ⟨M', hM', hd⟩ := hbody f cdv A outer s pl fp F H E v0 hr
    obtain ⟨ts, p, sd⟩ := hd.ex
    refine ⟨ts, p, ?_⟩
    have hF : ∀ l ∈ fp, F l = none := fun l hl => (OwnD.there _ _ _ _ own l hl).1
    have st0 := sr_start (G := ⟨K, mg, pl⟩) (N := N) (n := n) (F := F) (H := hid fp H) rfl (hid_hid2 fh hF) (po.hidM dis) (.cons (m := .v) (d := .non) (v := .non) rfl a) hn (by simpa using hle)
    have len := a.len
    have st : SR ⟨K, mg, pl⟩ ⟨pl, F, hid fp H⟩ ((.p lv v0 :: ar) ++ List.replicate (n - (ar.length + 1)) .v) F H (L2.start N (v0 :: vs')) ((self :: ds).map some ++ List.replicate (n - (self :: ds).length) none) := by
      refine ⟨⟨fun b o e => ?_, Ex.refl F, fh, fun _ _ e => .inl e, po⟩, by simp [L2.start, len.1, hn], by simp [len.2], fun j => if j = 0 then fp else [], ⟨fun j => ?_, fun j j' l hj hl => ?_, fun j l hl => ?_⟩, fun j d e => ?_⟩
      · exact hid_ex _ _ (hid_some e).2
      · split
        · exact nd
        · exact List.nodup_nil
      · split at hl
        · rename_i h0
          rw [if_neg (fun z => hj (h0.trans z.symm))]
          simp
        · cases hl
      · split at hl
        · obtain ⟨q1, q2⟩ := OwnD.there _ _ _ _ own l hl
          exact ⟨q1, hid_in hl, dis l hl, q2⟩
        · cases hl
      · obtain ⟨fp0, _, k0⟩ := st0.own
        cases j with
        | zero =>
          have e : some self = some d := by simpa using e
          cases e
          exact ⟨.p lv v0, v0, rfl, rfl, rfl, by simp only [if_pos rfl]; exact own⟩
        | succ j =>
          obtain ⟨m', v, e1, e2, q⟩ := k0 (j + 1) d (by simpa using e)
          have e1' : ((Md.p lv v0 :: ar) ++ List.replicate (n - (ar.length + 1)) .v)[j + 1]? = some m' := by simpa using e1
          refine ⟨m', v, e1', by simpa [L2.start] using e2, ?_⟩
          simp only [if_neg (Nat.succ_ne_zero j)]
          have hm' : m'.own = none := by
            rw [List.cons_append, List.getElem?_cons_succ] at e1'
            by_cases hj : j < ar.length
            · rw [List.getElem?_append_left hj] at e1'
              have hj2 : j < ds.length := by omega
              obtain ⟨m2, v2, e3, e4, q2⟩ := args_get a j ds[j] (List.getElem?_eq_getElem hj2)
              rw [e1'] at e3
              cases e3
              cases m' <;> first | rfl | exact q2.elim
            · rw [List.getElem?_append_right (by omega)] at e1'
              have := List.mem_of_getElem? e1'
              simp at this
              rw [this.2]
              rfl
          cases m' with
          | v => exact ⟨q.1, rfl⟩
          | b => exact ⟨q.1, rfl⟩
          | o k => cases hm'
          | p k u => cases hm'
    refine sd F H _ _ st _ Ed _ hw (fun σ' ρ' F' H' e s' q => ?_) (fun _ _ _ _ _ _ q => q.elim) (fun _ _ _ _ _ _ q => q.elim) (fun _ _ _ _ _ _ _ q => q.elim) fun x cls dd σ' F' H' e s' i q => h2 x cls dd F' H' s'.toGr i q
    have q : match ρ'[0]? with | some (some d) => Qd d | _ => False := q
    split at q
    · rename_i d e0
      obtain ⟨fp2, f2, k2⟩ := s'.own
      obtain ⟨m', v, e1, e2, h3⟩ := k2 0 d e0
      rw [hM'] at e1
      cases e1
      obtain ⟨rfl, h3⟩ := h3
      exact h1 d F' H' (fp2 0) s'.base.toGr h3 (f2.nd 0) (fun l hl => (f2.out 0 l hl).2.1) q
    · exact q.elim
/-- o.m(e, ..), C(e, ..): what they let out by the slots -/
def tMethX (K : PySem.W.Frag) (f : Addr) (m : Str) (sp : Sp) (E : L2.St → XK) (ta : TE) (t : TA) : TE := fun σ H Q => ta σ H fun x H1 => ∃ a C dx fs, x = .ref a ∧ H1 a = some (.ins C dx fs) ∧ Cls K C ∧ Meth K C m f ∧ fs.lookup m = none ∧ t σ H1 fun vs H2 => sp (x :: vs) H2 Q (E σ)
def tMakeX (C : Addr) (sp : Sp) (E : L2.St → XK) (t : TA) : TE := fun σ H Q => t σ H fun vs H1 => ∀ x dx, H1 x = none → H1 dx = none → dx ≠ x → sp (.ref x :: vs) (upd (upd H1 dx (.own x)) x (.ins C dx [])) (fun v H2 => v = .non ∧ Q (.ref x) H2) (E σ)
theorem pe_methX {o e : Expr} {es : List Expr} {CX : CXT} {k : Nat} {f : Addr} {m : Str} {fd : FuncData} {ps : List Str} {sp : Sp} {E : L2.St → XK} {ta : TE} {t : TA} {pl : Sem Bool} (he : PE X o ta) (F : FnOk X.prog X.w X.K X.mg X.base CX k f fd ps sp) (hr : Room k X.A) (hb : Binds X.K fd ps []) (hx : ∀ σ, PassesAt CX X σ (E σ)) (ha : PA X (e :: es) t)
    (hst : starEach (e :: es) X.env = (false, eval e X.env) :: starEach es X.env := by rfl) (hpl : (backTo pos (starEach es X.env)).any (·.1) = false := by rfl)
    (ht : eval (.Call (.Attribute o m apos) (e :: es) [] pos) X.env = (do
      let ov ← eval o X.env
      standAt apos.atName
      let (f, first) ← holding [ov] (getMethod ov m pl)
      callWith pos f first (backTo pos (starEach (e :: es) X.env)) (backToKw pos (keywordEach [] X.env))) := by rfl) :
    PE X (.Call (.Attribute o m apos) (e :: es) [] pos) (tMethX X.K f m sp E ta t) := by
  refine ⟨fun pins s σ H Q I h => ?_⟩
  refine PySem.W.methodCall_KW (pl := pl) (thn (he.run pins s σ H _ I h) fun u s1 ⟨x, H1, I1, rx, a, C, dx, fs, ex, ea, c, hm, l, q⟩ => ?_) ht
  subst ex
  obtain rfl : u = Value.ref a := rx
  refine getmeth_ok I1 ea c hm l ?_
  refine PySem.W.callWith_K (first := [.ref a]) (h₀ := X.base) I.ok.mod.kin hm.kp (thn (ha.run pos pins s1 σ H1 _ I1 q) fun us s2 ⟨vs, H2, I2, r, q2⟩ => ⟨I2.kIn, ?_⟩) hst hpl
  exact run_fnS (us := .ref a :: us) (vs := .ref a :: vs) F hr hb (hx σ) I2 (.cons rfl r) q2
theorem run_makeX {CX : CXT} {k : Nat} {C f : Addr} {fd : FuncData} {ps : List Str} {sp : Sp} {E : XK} {pins : List (Addr × Obj)} {σ : L2.St} {H : Hp} {s : Shared} {Q : VK} {us : List Value} {vs : List V} (M : Mk X.K C f) (F : FnOk X.prog X.w X.K X.mg X.base CX k f fd ps sp) (hr : Room (k + 1) X.A) (hb : Binds X.K fd ps [])
    (hx : ∀ (H : Hp), PassesAt CX X σ E) (I : Inv X pins σ H s) (r : Vals vs us)
    (h : ∀ x dx, H x = none → H dx = none → dx ≠ x → sp (.ref x :: vs) (upd (upd H dx (.own x)) x (.ins C dx [])) (fun v H2 => v = .non ∧ Q (.ref x) H2) E) :
    wpAny (model X.prog X.w) X.A (call (.ref C) us) (EP X pins σ Q) X.xe s := by
  have hq := h (s.heap.objs.size + 1) s.heap.objs.size (I.hok.fresh (Nat.le_succ _)) (I.hok.fresh (Nat.le_refl _)) (Nat.ne_of_lt (Nat.lt_succ_self _))
  have I2 := Inv.made (C := C) I
  have r2 : Vals (V.ref (s.heap.objs.size + 1) :: vs) (Value.ref (s.heap.objs.size + 1) :: us) := .cons rfl r
  have hl : (Value.ref (s.heap.objs.size + 1) :: us).length = ps.length := by
    have e := r2.length
    rw [F.len _ _ _ _ hq] at e
    exact e.symm
  have b := hb { s with heap := (s.heap.push { cls := .type "dict", data := .dict #[] 0 }) } (Value.ref (s.heap.objs.size + 1) :: us)
  refine wpAny_call (make_map (f := f) I.kIn M.makes M.init (beq_iff_eq.mp M.fn) (codeAny_mono (F.run _ X.stack _ _ ⟨Value.ref (s.heap.objs.size + 1) :: us, []⟩ (Value.ref (s.heap.objs.size + 1) :: us) _ _ E (hr.make C us [])
    (I2.env0.make C us []) (by have := hb _ (Value.ref (s.heap.objs.size + 1) :: us) I2.kIn (by rw [List.append_nil]; exact hl); rw [List.append_nil] at this; exact this) r2 hq) fun r s' hq' => ?_))
  cases r with
  | error e => exact hx H pins _ _ e s' I2 hq'
  | ok fl =>
    cases fl with
    | ret u =>
      obtain ⟨v, H', I3, rv, ev, q3⟩ := I2.after hq'
      subst ev
      exact ⟨rv, ⟨V.ref (s.heap.objs.size + 1), H', I3, rfl, q3⟩⟩
    | next => exact False.elim hq'
    | brk => exact False.elim hq'
    | cont => exact False.elim hq'
theorem pe_makeX {x : Str} {p : Pos} {e : Expr} {es : List Expr} {CX : CXT} {k : Nat} {C f : Addr} {fd : FuncData} {ps : List Str} {sp : Sp} {E : L2.St → XK} {t : TA} (M : Mk X.K C f) (F : FnOk X.prog X.w X.K X.mg X.base CX k f fd ps sp) (hr : Room (k + 1) X.A) (hg : Gl X x) (hm : X.mg x = some (.ref C)) (hb : Binds X.K fd ps []) (hx : ∀ σ, PassesAt CX X σ (E σ))
    (ha : PA X (e :: es) t) (hdb : (x == ("__debug__" : Str)) = false := by decide) (he : starEach (e :: es) X.env = (false, eval e X.env) :: starEach es X.env := by rfl) (hpl : (backTo pos (starEach es X.env)).any (·.1) = false := by rfl) :
    PE X (.Call (.Name x p) (e :: es) [] pos) (tMakeX C sp E t) := by
  refine ⟨fun pins s σ H Q I h => ?_⟩
  refine wpAny_Call_Name_kw (ld_glob I hg hm ?_ hdb)
  refine PySem.W.callWith_K (h₀ := X.base) I.ok.mod.kin M.kp (thn (ha.run pos pins s σ H _ I h) fun us s1 ⟨vs, H1, I1, r, q⟩ => ⟨I1.kIn, ?_⟩) he hpl
  exact run_makeX M F hr hb (fun _ => hx σ) I1 r q
/-- self.m(..), a method that changes its self -/
def methW (i : Nat) (cs : List Str) (mn : Str) (m : List D → W D) (wa : Env → W (List D)) : Env → W Fl := fun ρ Q E => objAt ρ i cs fun c ns ds0 => idxS mn ns = none ∧ wa ρ (fun ds => m (.obj c ns ds0 :: ds) (fun self' => Q (.next (ρ.set i (some self')))) E) E
theorem lookup_none {f : Str} : ∀ {vs : List (Str × V)}, idxS f (vs.map Prod.fst) = none → vs.lookup f = none
  | [], _ => rfl
  | (g, x) :: r, h => by
    simp only [List.map_cons, idxS] at h
    by_cases hb : (f == g) = true
    · rw [if_pos hb] at h; cases h
    · rw [if_neg hb, Option.map_eq_none_iff] at h
      simp only [Bool.not_eq_true] at hb
      rw [List.lookup_cons, hb]
      exact lookup_none h
/-- .. by a callee that hides all else -/
theorem SR.mutC {F H : Hp} {σ : L2.St} {ρ : Env} (s : SR G C M F H σ ρ) {i n : Nat} {d : D} (hM : ownAt M i = some n) (hd : ρ[i]? = some (some d)) : ∃ v fp, σ[i]? = some (some v) ∧ OwnD G F H d n v fp ∧ fp.Nodup ∧ (∀ l ∈ fp, F l = none ∧ l ∉ C.pl ∧ C.H0 l = none) ∧
    ∀ (F2 H2 : Hp) (d' : D) (fp' : List Addr), Gr C.pl F (hid fp H) F2 H2 → OwnD G F2 H2 d' n v fp' → fp'.Nodup → (∀ l ∈ fp', hid fp H l = none) → Ex F F2 ∧ SR G C M F2 H2 σ (ρ.set i (some d')) := by
  obtain ⟨fp, f, k⟩ := s.own
  obtain ⟨m, v, e1, e2, h1⟩ := k i d hd
  have hi : i < M.length := (List.getElem?_eq_some_iff.mp e1).1
  have hm : m.own = some n := by unfold ownAt at hM; rw [e1] at hM; exact hM
  have h1' : OwnD G F H d n v (fp i) := by
    cases m <;> simp only [Md.own] at hm <;> cases hm
    · exact h1
    · exact h1.2
  refine ⟨v, fp i, e2, h1', f.nd i, fun l hl => ⟨(f.out i l hl).1, (f.out i l hl).2.2.1, (f.out i l hl).2.1⟩, fun F2 H2 d' fp' g own nd' sub => ⟨g.ff, ?_⟩⟩
  have nh : ∀ {a : Addr}, hid (fp i) H a = none → a ∈ fp i ∨ H a = none := fun {a} h => by
    by_cases ha : a ∈ fp i
    · exact .inl ha
    · rw [hid_out ha] at h; exact .inr h
  have up : ∀ {a : Addr} {o : HO}, a ∉ fp i → a ∉ C.pl → H a = some o → H2 a = some o := fun {a o} h1 h2 e => g.hh a o (by rw [hid_out h2, hid_out h1]; exact e)
  have out2 : ∀ j l, j ≠ i → l ∈ fp j → F2 l = none ∧ ∃ o, H2 l = some o ∧ ∀ xs, o ≠ .tup xs := fun j l hj hl => by
    obtain ⟨q1, q2, q3, o, q4, q5⟩ := f.out j l hl
    have q6 := up (f.dj j i l hj hl) q3 q4
    refine ⟨?_, o, q6, q5⟩
    cases q : F2 l with
    | none => rfl
    | some u =>
      rcases g.sep l u q with e | e | ⟨xs, e⟩
      · rw [q1] at e; cases e
      · rcases nh e with e | e
        · exact absurd e (f.dj j i l hj hl)
        · rw [q4] at e; cases e
      · have := (hid_some (g.fh l u q)).2
        rw [q6] at this; cases this
        exact absurd e (q5 xs)
  refine ⟨⟨fun a o e => ?_, s.base.ff.trans g.ff, g.fh, fun a o e => ?_, g.pool⟩, s.ls, by simp [s.lr], fun j => if j = i then fp' else fp j, ⟨fun j => ?_, fun j j' l hj hl => ?_, fun j l hl => ?_⟩, fun j d2 e => ?_⟩
  · obtain ⟨z1, z2⟩ := hid_some e
    refine up (fun z => ?_) z1 (s.base.stay a o e)
    rw [(f.out i a z).2.1] at z2; cases z2
  · rcases g.sep a o e with h | h | h
    · exact s.base.sep a o h
    · rcases nh h with h | h
      · exact .inr (.inl (f.out i a h).2.1)
      · exact .inr (.inl (s.base.old h))
    · exact .inr (.inr h)
  · split
    · exact nd'
    · exact f.nd j
  · by_cases h1 : j = i
    · rw [if_pos h1] at hl
      have hj' : j' ≠ i := fun z => hj (h1.trans z.symm)
      rw [if_neg hj']
      intro z
      rcases nh (sub l hl) with y | y
      · exact f.dj i j' l (fun e => hj' e.symm) y z
      · obtain ⟨_, _, _, o, e, _⟩ := f.out j' l z
        rw [y] at e; cases e
    · rw [if_neg h1] at hl
      by_cases h2 : j' = i
      · rw [if_pos h2]
        intro z
        rcases nh (sub l z) with y | y
        · exact f.dj j i l h1 hl y
        · obtain ⟨_, _, _, o, e, _⟩ := f.out j l hl
          rw [y] at e; cases e
      · rw [if_neg h2]; exact f.dj j j' l hj hl
  · by_cases h1 : j = i
    · rw [if_pos h1] at hl
      obtain ⟨q1, q2⟩ := OwnD.there d' n v fp' own l hl
      rcases nh (sub l hl) with y | y
      · exact ⟨q1, (f.out i l y).2.1, (f.out i l y).2.2.1, q2⟩
      · exact ⟨q1, s.base.old y, (s.base.nofresh y).2, q2⟩
    · rw [if_neg h1] at hl
      obtain ⟨q1, q2⟩ := out2 j l h1 hl
      obtain ⟨_, q3, q4, _⟩ := f.out j l hl
      exact ⟨q1, q3, q4, q2⟩
  · by_cases hj : j = i
    · subst hj
      rw [List.getElem?_set_self (by rw [s.lr]; exact hi)] at e
      cases e
      refine ⟨m, v, e1, e2, ?_⟩
      simp only [if_pos rfl]
      cases m <;> simp only [Md.own] at hm <;> cases hm
      · exact own
      · exact ⟨h1.1, own⟩
    · rw [List.getElem?_set_ne (Ne.symm hj)] at e
      obtain ⟨m, v', e1, e2, h1⟩ := k j d2 e
      refine ⟨m, v', e1, e2, ?_⟩
      simp only [if_neg hj]
      have kp : ∀ l ∈ fp j, F2 l = none ∧ ∀ o, H l = some o → H2 l = some o := fun l hl => ⟨(out2 j l hj hl).1, fun o e => up (f.dj j i l hj hl) (f.out j l hl).2.2.1 e⟩
      cases m with
      | v => exact ⟨Is.mono g.ff _ _ h1.1, h1.2⟩
      | b => exact h1
      | o n' => exact OwnD.step g.ff d2 n' v' (fp j) kp h1
      | p n' u => exact ⟨h1.1, OwnD.step g.ff d2 n' v' (fp j) kp h1.2⟩
/-- what is known of exceptions, for a callee's hidden heap -/
theorem SR0.grC {F H F2 H2 : Hp} {fp : List Addr} (s : SR0 C F H) (k : ∀ l ∈ fp, C.H0 l = none) (g : Gr C.pl F (hid fp H) F2 H2) : SR0 C F2 H2 := by
  refine ⟨fun a o e => ?_, s.ff.trans g.ff, g.fh, fun a o e => ?_, g.pool⟩
  · obtain ⟨z1, z2⟩ := hid_some e
    refine g.hh a o ?_
    rw [hid_out z1, hid_out fun z => by rw [k a z] at z2; cases z2]
    exact s.stay a o e
  · rcases g.sep a o e with h | h | h
    · exact s.sep a o h
    · by_cases ha : a ∈ fp
      · exact .inr (.inl (k a ha))
      · rw [hid_out ha] at h
        exact .inr (.inl (s.old h))
    · exact .inr (.inr h)
theorem args_v {F H H' : Hp} {ar : List Md} {ds : List D} {vs : List V} (hv : allV ar = true) (h : ArgsOk G F H ar ds vs) : ArgsOk G F H' ar ds vs := by
  induction h with
  | nil => exact .nil
  | @cons m d v ms ds vs a t ih =>
    cases m with
    | v => exact .cons (m := .v) a (ih hv)
    | o n => cases hv
    | b => cases hv
    | p n u => cases hv
theorem ds_meth {i n k : Nat} {cs : List Str} {x mn : Str} {e : Expr} {es : List Expr} {ar : List Md} {m : List D → W D} {wa : Env → W (List D)} {f : Addr} {pl0 : Sem Bool} (hM : ownAt M i = some (n + 1)) (hN : X.N[i]? = some x) (hv : Vis X.env.scope x) (hcl : ∀ c ∈ cs, ∃ Cl, X.mg c = some (.ref Cl) ∧ Cls X.K Cl ∧ Meth X.K Cl mn f)
    (Fn : FnM X.prog X.w X.K X.mg X.base f k (n + 1) ar m) (hr : Room k X.A) (tk : Takes X Wx) (ha : DA X C M Wx ar (e :: es) wa) (hd : (x == ("__debug__" : Str)) = false := by decide) (hcd : (x == ("__classdict__" : Str)) = false := by decide) (hav : allV ar = true := by rfl)
    (hst : starEach (e :: es) X.env = (false, eval e X.env) :: starEach es X.env := by rfl) (hpl : (backTo cpos (starEach es X.env)).any (·.1) = false := by rfl)
    (hs : swapsWith (.Call (.Attribute (.Name x p2) mn apos) (e :: es) [] cpos) none pos.line X.env = pure false := by rfl)
    (ht : eval (.Call (.Attribute (.Name x p2) mn apos) (e :: es) [] cpos) X.env = (do
      let ov ← eval (.Name x p2) X.env
      standAt apos.atName
      let (f, first) ← holding [ov] (getMethod ov mn pl0)
      callWith cpos f first (backTo cpos (starEach (e :: es) X.env)) (backToKw cpos (keywordEach [] X.env))) := by rfl) :
    DS X C Ml rk Wx M M (.Expr (.Call (.Attribute (.Name x p2) mn apos) (e :: es) [] cpos) pos) (methW i cs mn m wa) := by
  obtain ⟨fd, ps, hb, Fk⟩ := Fn.ex
  obtain ⟨ta, pa, sa⟩ := ha.ex
  refine ⟨_, ps_expr (pe_methX (pe_var hN hv hd hcd) Fk hr hb (fun σ => passAt tk σ) pa hst hpl ht) hs, fun F H σ ρ r Qd Ed D_ hw hn _ _ _ hx => ?_⟩
  obtain ⟨c, ns, ds0, e0, hcc, hno, hw⟩ := objAt_some hw
  obtain ⟨Cl, m1, c1, me⟩ := hcl c hcc
  obtain ⟨v, fp, e1, o1, nd, _, _⟩ := r.mutC hM e0
  obtain ⟨l, C2, dx, vs0, r1, rfl, q1, q2, q5, q4, q3, rfl⟩ := own_obj o1
  rw [show (gx X C).mg c = X.mg c from rfl, m1] at q5
  cases q5
  refine ⟨.ref l, e1, l, Cl, dx, vs0, rfl, q2, c1, me, lookup_none (by rw [q4]; exact hno), ?_⟩
  refine sa F H σ ρ r _ Ed _ hw (fun ds vs F1 H1 g a q => ?_) fun x cls dd F' H' g i q => hx x cls dd σ F' H' g.ff (r.base.gr g) i q
  have rg := r.gr g
  obtain ⟨v, fp, e1', o1, nd, out, fin⟩ := rg.mutC hM e0
  rw [e1] at e1'; cases e1'
  have hH0 : ∀ l ∈ fp, C.H0 l = none := fun l hl => (out l hl).2.2
  refine ⟨C.pl, F1, .ref l, vs, _, fp, ds, rfl, g.fh, g.pool, o1, nd, fun a ha => (out a ha).2.1, args_v hav a, _, Ed, q, fun self' F2 H2 fp' g2 o2 nd2 fr2 q2 => ?_, fun x cls dd F2 H2 g2 i2 qq => ?_⟩
  · obtain ⟨e2, s2⟩ := fin F2 H2 self' fp' g2 o2 nd2 fr2
    exact hn σ _ F2 H2 (g.ff.trans e2) s2 q2
  · exact hx x cls dd σ F2 H2 (g.ff.trans g2.ff) (rg.base.grC hH0 g2) i2 qq
/-- C(e, ..): a new object -/
theorem gr_made {pl : List Addr} {F1 H1 F' H' : Hp} {C : Addr} {x dx : Addr} (hx : H1 x = none) (hdx : H1 dx = none) (f : Ex F1 (hid pl H1)) (g : Gr pl F1 (hid [x] (upd (upd H1 dx (.own x)) x (.ins C dx []))) F' H') : Gr pl F1 H1 F' H' := by
  have low : ∀ {a : Addr} {o : HO}, H1 a = some o → hid [x] (upd (upd H1 dx (.own x)) x (.ins C dx [])) a = some o := fun {a o} e => by
    have h1 : a ≠ x := fun z => by rw [z, hx] at e; cases e
    have h2 : a ≠ dx := fun z => by rw [z, hdx] at e; cases e
    rw [hid_out (by simp [h1]), upd_ne h1, upd_ne h2]
    exact e
  refine ⟨g.ff, g.fh, fun a o e => ?_, fun a o e => ?_, g.pool⟩
  · obtain ⟨z1, z2⟩ := hid_some e
    exact g.hh a o (by rw [hid_out z1]; exact low z2)
  · rcases g.sep a o e with h | h | h
    · exact .inl h
    · refine .inr (.inl ?_)
      cases q : H1 a with
      | none => rfl
      | some u => rw [low q] at h; cases h
    · exact .inr (.inr h)
def makeW (c : Str) (m : List D → W D) (wa : Env → W (List D)) : Env → W D := fun ρ Q E => wa ρ (fun ds => m (.obj c [] [] :: ds) Q E) E
theorem de_make {n k : Nat} {c : Str} {p : Pos} {e : Expr} {es : List Expr} {ar : List Md} {m : List D → W D} {wa : Env → W (List D)} {f : Addr} (hcl : ∃ Cl, X.mg c = some (.ref Cl) ∧ Mk X.K Cl f)
    (Fn : FnM X.prog X.w X.K X.mg X.base f k (n + 1) ar m) (hr : Room (k + 1) X.A) (hg : Gl X c) (tk : Takes X Wx) (ha : DA X C M Wx ar (e :: es) wa) (hav : allV ar = true := by rfl)
    (hdb : (c == ("__debug__" : Str)) = false := by decide) (he : starEach (e :: es) X.env = (false, eval e X.env) :: starEach es X.env := by rfl) (hpl : (backTo pos (starEach es X.env)).any (·.1) = false := by rfl) :
    DE X C M Wx (.n (n + 1)) (.Call (.Name c p) (e :: es) [] pos) (makeW c m wa) := by
  obtain ⟨Cl, m1, mk⟩ := hcl
  obtain ⟨fd, ps, hb, Fk⟩ := Fn.ex
  obtain ⟨ta, pa, sa⟩ := ha.ex
  refine ⟨_, pe_makeX mk Fk hr hg m1 hb (fun σ => passAt tk σ) pa hdb he hpl, fun F H σ ρ s Qd Ed Q hw hq hx => ?_⟩
  refine sa F H σ ρ s _ Ed _ hw (fun ds vs F1 H1 g a q => ?_) hx
  intro x dx hx0 hdx hne
  have hpx : x ∉ C.pl := fun z => by obtain ⟨_, e⟩ := g.pool.there z; rw [hx0] at e; cases e
  have hFx : F1 x = none := by
    cases e : F1 x with
    | none => rfl
    | some u => have := (hid_some (g.fh x u e)).2; rw [hx0] at this; cases this
  have ext : Ex H1 (upd (upd H1 dx (.own x)) x (.ins Cl dx [])) := fun b o e => by
    rw [upd_ne (ne_of_none e hx0), upd_ne (ne_of_none e hdx)]; exact e
  have gL := Gr.same (pl := C.pl) g.fh g.pool ext
  have back : ∀ {l : Addr}, hid [x] (upd (upd H1 dx (.own x)) x (.ins Cl dx [])) l = none → H1 l = none := fun {l} h => by
    cases q : H1 l with
    | none => rfl
    | some u =>
      rw [hid_out (by simp; exact ne_of_none q hx0), ext l u q] at h; cases h
  refine ⟨C.pl, F1, .ref x, vs, .obj c [] [], [x], ds, rfl, gL.fh, gL.pool, ⟨x, Cl, dx, [], [], rfl, hFx, upd_same, m1, rfl, ⟨rfl, rfl⟩, rfl⟩, by simp, by simpa using hpx, args_v hav a, Qd, Ed, q, fun self' F2 H2 fp' g2 o2 nd2 fr2 q2 => ⟨rfl, ?_⟩, fun xx cls dd F2 H2 g2 i2 qq => ?_⟩
  · have g3 := gr_made hx0 hdx g.fh g2
    exact hq self' (.ref x) F2 H2 (g.trans g3) ⟨fp', o2, nd2, fun l hl => g.back g.pool l (back (fr2 l hl))⟩ q2
  · exact hx xx cls dd F2 H2 (g.trans (gr_made hx0 hdx g.fh g2)) i2 qq
end
end DL

namespace DL
open PySem PySem.Spec PyProof.Rows L2

/-! ### sorted(d.items()) -/
def pairV (kvs : List (Key × V)) (ts : List Addr) : Hp → Prop := fun H => Paired (fun (t : Addr) (q : Key × V) => H t = some (.tup [kV q.1, q.2])) ts kvs
theorem items_tups {X : Cx} {pins : List (Addr × Obj)} {σ : L2.St} {H : Hp} {s : Shared} {h' : Heap} {tk : Nat} {kvs : List (Key × V)} {vs : List (Key × Value)} {as : List Addr} {lo : Addr} (I : Inv X pins σ H s) (kv : KV kvs vs) (hlo : s.heap.objs.size ≤ lo)
    (hk : ∀ b o, s.heap.get? b = some o → h'.get? b = some o) (hl : as.length = vs.length) (hG : PySem.W.KdxG (mixKind X.prog X.w) vs lo h' as) :
    ∃ H' : Hp, Ex H H' ∧ (∀ t ∈ as, H t = none) ∧ Paired (fun (t : Addr) (q : Key × V) => H' t = some (.tup [kV q.1, q.2])) as kvs ∧ Inv X pins σ H' { s with heap := h', toks := tk } := by
  have lk : kvs.length = vs.length := Paired.length kv
  have nd : as.Nodup := List.Pairwise.imp (fun {a b} (h : a < b) => Nat.ne_of_lt h) hG.rise
  have new : ∀ t ∈ as, H t = none := fun t ht => I.hok.fresh (Nat.le_of_lt (Nat.lt_of_le_of_lt hlo (hG.above t ht)))
  have atP := LiI.putT_at as kvs H (by omega) nd
  have off : ∀ b, b ∉ as → LiI.putT H as kvs b = H b := fun b h1 => LiI.putT_off as kvs _ h1
  have low : ∀ b o, s.heap.get? b = some o → b ∉ as := fun b o e z => absurd (Heap.lt_size e) (Nat.not_lt.mpr (Nat.le_of_lt (Nat.lt_of_le_of_lt hlo (hG.above b z))))
  have kp : ∀ b u, H b = some u → (LiI.putT H as kvs) b = some u := fun b u e => by
    rw [off b (fun z => by rw [new b z] at e; cases e)]
    exact e
  refine ⟨LiI.putT H as kvs, kp, new, atP, ?_⟩
  refine I.call' (ch := []) rfl ⟨fun b o q _ _ _ => hk b o q, fun b o q _ _ _ => ⟨o.slots, hk b o q⟩, fun b o q n _ => ?_, fun b o q _ => ⟨o, hk b o q⟩, fun b xs q => kp b _ q, fun b o u q => kp b _ q, fun b ps q => ⟨#[], by rw [kp b _ q]; simp⟩⟩ (fun b u q => ?_) I.bare fun b z => by simp at z
  · rw [off b (low b o q)]
    exact n
  · by_cases hb : b ∈ as
    · obtain ⟨j, pk, e1, e2, e3⟩ := LiI.paired_ix atP hb
      rw [e3] at q
      cases q
      obtain ⟨key, k, x, f1, f2, f3⟩ := hG.pairs j b e1
      obtain ⟨qv, g1, g2, g3⟩ := LiI.paired_get kv e2
      rw [f1] at g1
      cases g1
      have rk : RelV (kV pk.1) key := by
        rw [g2]
        exact relV_key (show keyIs k key = true from f2)
      exact ⟨by show 2 ≤ sizeLine; decide, [key, x], .cons rk (.cons g3 .nil), ⟨_, f3, rfl, _, rfl⟩⟩
    · rw [off b hb] at q
      exact (I.hok b u q).stay (fun d v _ y => hk d v y) (fun d y => kp d _ y) fun d xs y => kp d _ y
/-- the pairs as data -/
def itemsD (ks : List Key) (ds : List D) : List D := (ks.zip ds).map fun p => .tup [kD p.1, p.2]
def rSortIt (K : PySem.W.Frag) : V → Hp → VK → Prop := fun x H Q => ∃ (a : Addr) (kvs : List (Key × V)) (ds : List D), x = .ref a ∧ Rd H a (.dK kvs) ∧ kvs.length = ds.length ∧ (∀ H', Ex H H' → ∀ p ∈ kvs.zip ds, Dp K H' p.1.2 (py p.2)) ∧ sortOk (itemsD (kvs.map Prod.fst) ds) = true ∧
  ∀ (H' : Hp) (p : Addr) (ts : List Addr), Ex H H' → (∀ t ∈ ts, H t = none) → Paired (fun (t : Addr) (q : Key × V) => H' t = some (.tup [kV q.1, q.2])) ts kvs → H' p = none →
    Q (.ref p) (upd H' p (.lst ((((itemsD (kvs.map Prod.fst) ds).zip (ts.map V.ref)).mergeSort leP).map Prod.snd)))
def tSortIt (K : PySem.W.Frag) (te : TE) : TE := fun σ H Q => te σ H fun x H1 => rSortIt K x H1 Q
theorem items_dp {K : PySem.W.Frag} {H' : Hp} : ∀ {ts : List Addr} {kvs : List (Key × V)} {ds : List D}, Paired (fun (t : Addr) (q : Key × V) => H' t = some (.tup [kV q.1, q.2])) ts kvs → kvs.length = ds.length → (∀ p ∈ kvs.zip ds, Dp K H' p.1.2 (py p.2)) →
    ∀ p ∈ (itemsD (kvs.map Prod.fst) ds).zip (ts.map V.ref), Dp K H' p.2 (py p.1)
  | _, _, _, .nil, _, _ => by simp [itemsD]
  | t :: ts, q :: kvs, [], _, h, _ => by cases h
  | t :: ts, q :: kvs, d :: ds, .cons h1 h2, hl, hd => by
    intro p hp
    simp only [itemsD, List.map_cons, List.zip_cons_cons, List.mem_cons] at hp
    rcases hp with rfl | hp
    · refine .tup (.inl (.inl h1)) (.cons ?_ (.cons (hd (q, d) (by simp)) .nil))
      obtain ⟨k, v⟩ := q
      cases k with
      | inl i => exact .int i
      | inr s => exact .str s
    · exact items_dp h2 (by simpa using hl) (fun p hp => hd p (by simp [hp])) p (by simpa [itemsD] using hp)
theorem pe_sortIt {X : Cx} {e : Expr} {te : TE} {p apos cpos pos : Pos} (hc : X.calm = true) (hu : X.A.units + 62 < cLine) (he : PE X e te) (hg : Gl X "sorted") (hm : X.mg "sorted" = none) (hbase : attributeBase e "items" X.env (eval e X.env) = eval e X.env := by rfl) (hline : (apos.endLine == cpos.line) = true := by rfl)
    (hs : starEach [.Call (.Attribute e "items" apos) [] [] cpos] X.env = (false, eval (.Call (.Attribute e "items" apos) [] [] cpos) X.env) :: starEach [] X.env := by rfl) :
    PE X (.Call (.Name "sorted" p) [.Call (.Attribute e "items" apos) [] [] cpos] [] pos) (tSortIt X.K te) := by
  refine ⟨fun pins s σ H Q I hq => ?_⟩
  refine wpAny_Call_Name_kw (ld_blt I hg hm (show bootBuiltins "sorted" = some (.builtin "sorted") by decide +kernel) ?_)
  refine PyProof.Rows.callWith_builtin1 ?_ hs rfl
  rw [hs]
  show wpAny _ _ (spliced ((false, eval (.Call (.Attribute e "items" apos) [] [] cpos) X.env) :: backTo pos (starEach [] X.env))) _ _ s
  refine Calls.spliced_cons ?_
  refine wpAny_Call_method (T := "dict") (id := "dict.items") hbase rfl hline F.plainAttrs_dict F.slot_dict_items F.type_dict_items (thn (he.run pins s σ H _ I hq) fun u s1 ⟨x, H1, I1, rx, d, kvs, ds, ex, hd, hds, hdp, ok, q⟩ => ?_)
  subst ex
  obtain rfl : u = Value.ref d := rx
  obtain ⟨hz, hs0, vs, kv, hdo⟩ := dk_rd I1.hok hd
  obtain ⟨ep, hat⟩ := hdo.dictAt
  have lk : kvs.length = vs.length := Paired.length kv
  have I2 : Inv X pins σ H1 { s1 with heap := s1.heap.push { cls := .type "dict_items", data := .fields #[.ref d] } } := I1.kept (t' := s1.toks) fun b ob q => Heap.get?_push_of_some _ q
  refine ⟨hdo.typeIs, hdo.mapOf.noDict, ?_⟩
  show wpAny _ _ (callWith cpos (.builtin "dict.items") [.ref d] [] []) _ X.xe s1
  refine method_meetsIn F.slot_dict_items F.entry_dict_items rfl (PySem.evalArgs_none ⟨rfl, hdo.typeIs, F.args_dict_items_1 _, _, meets_dict_items (mixKind X.prog X.w) d hs0, ⟨vs, hdo⟩, ?_⟩)
  refine Calls.spliced_nil ?_
  refine Calls.call_function_entry kind_sorted plain_sorted entry_sorted (args_sorted1 _) ?_
  unfold Builtin.«sorted»
  refine wpAny_bind (m := checkCount "sorted" 1 1 _) (wpAny_pure ?_)
  refine wpAny_bind (PySem.W.kdx_collect (A := X.A.in1) (knd := mixKind X.prog X.w) (kvs := vs) (ep := ep) (I1.ok.hd hc) ⟨_, Heap.get?_push_size _ rfl, rfl, rfl⟩ (hat.push _) (by omega) fun h' tk as hk hl hG => ?_)
  obtain ⟨H', k1, k3, k6, J⟩ := items_tups (tk := tk) I2 kv (Nat.le_refl _) hk hl hG
  have hla : as.length ≤ sizeLine := by omega
  refine wpAny_bind (wpAny_newList ?_ (by rw [List.length_map]; exact hla))
  let ps : List (D × V) := (itemsD (kvs.map Prod.fst) ds).zip (as.map V.ref)
  have hpl : (itemsD (kvs.map Prod.fst) ds).length = (as.map V.ref).length := by simp [itemsD]; omega
  have hps1 : ps.map Prod.fst = itemsD (kvs.map Prod.fst) ds := by rw [List.map_fst_zip]; omega
  have hps2 : ps.map Prod.snd = as.map V.ref := by rw [List.map_snd_zip]; omega
  have e : PySem.W.EachIs (fun (v : Value) (p : D × V) => RelV p.2 v) (as.map Value.ref) ps := each_vals (by rw [hps2]; exact LiI.vals_refs as)
  have hdp' : ∀ p ∈ ps, Dp X.K H' p.2 (py p.1) := items_dp k6 hds (hdp H' k1)
  have hob : (h'.push { cls := .type "list", data := .seq (as.map Value.ref).toArray }).get? h'.objs.size = some (seqObj "list" (as.map Value.ref).toArray 0) := Heap.get?_push_size _ rfl
  let hs1 : Heap := h'.push { cls := .type "list", data := .seq (as.map Value.ref).toArray }
  have er : PySem.W.EachIs (fun v (b : D × V) => ∃ as', Reads (PySem.W.sortingHeap hs1 h'.objs.size (as.map Value.ref)) v (py b.1) as') (as.map Value.ref) ps := by
    refine (PySem.W.each_mem e).mono fun v p hp => ?_
    obtain ⟨as', r⟩ := Dp.reads J _ _ _ (hdp' p hp.2) hp.1
    refine ⟨as', PyProof.Rows.Reads.keeps (fun b o hb => ?_) r⟩
    have hb : h'.get? b = some o := hb
    exact PySem.W.sortingHeap_old (Nat.ne_of_lt (Heap.lt_size hb)) (Heap.get?_push_of_some _ hb)
  have hal : PySem.W.AllAlike (ps.map fun p : D × V => py p.1) := by
    have := sortOk_alike ok
    rw [← hps1, List.map_map] at this
    exact this
  have hab : DLS.Sortable2 (ps.map fun p : D × V => py p.1) := by
    have := sortOk_able ok
    rw [← hps1, List.map_map] at this
    exact this
  have key : wpAny (model X.prog X.w) X.A.in1 (call (.builtin "list.sort") [.ref h'.objs.size]) (fun _ s' => EP X pins σ Q (.ref h'.objs.size) s') X.xe { s1 with heap := hs1, toks := tk } := by
    refine wpAny_call_entry PyProof.Rows.slot_list_sort ⟨_, hob, rfl⟩ PyProof.Rows.entry_list_sort
      (PySem.W.list_sort_vals hob (DLS.SortsAt.data2 (s := { s1 with heap := PySem.W.sortingHeap hs1 h'.objs.size (as.map Value.ref), toks := tk }) (PySem.W.each_map (R := fun v d => ∃ as', Reads (PySem.W.sortingHeap hs1 h'.objs.size (as.map Value.ref)) v d as') (fun p : D × V => py p.1) er) hal hab fun d hd => ?_) (by rw [List.length_map]; exact hla) ⟨.none, rfl, ?_⟩) (PyProof.Rows.args_list_sort _)
    · obtain ⟨p, hp, rfl⟩ := List.mem_map.mp hd
      have hm : p.1 ∈ itemsD (kvs.map Prod.fst) ds := by rw [← hps1]; exact List.mem_map_of_mem hp
      have := (plain_lay 50 p.1 (sortOk_plain ok _ hm)).2
      show X.A.units + 1 + 1 + (py p.1).depth < cLine
      omega
    · have e2 := PySem.W.sortVals_data (h' := PySem.W.sortingHeap hs1 h'.objs.size (as.map Value.ref)) (R := fun (v : Value) (p : D × V) => RelV p.2 v) (enc := fun p : D × V => py p.1) false e er hal
      obtain ⟨ep2, he'⟩ := PyProof.Rows.sortedHeap_at (vs := as.map Value.ref) (out := (PySem.W.sortVals (PySem.W.dataKind (PySem.W.sortingHeap hs1 h'.objs.size (as.map Value.ref)) (ps.map fun p : D × V => py p.1)) false (as.map Value.ref) (as.map Value.ref)).toArray) hob
      have hfr : H' h'.objs.size = none := J.hok.fresh (Nat.le_refl _)
      refine ⟨.ref h'.objs.size, upd H' h'.objs.size (.lst ((ps.mergeSort leP).map Prod.snd)), J.laid (t' := tk) (fun b o hb => ?_) (Nat.le_refl _) ⟨?_, _, ep2, vals_each e2, he'⟩, rfl, q H' _ as k1 k3 k6 hfr⟩
      · have hb' : h'.get? b = some o := hb
        have hlt := Heap.lt_size hb'
        have hb2 : hs1.get? b = some o := Heap.get?_push_of_some _ hb'
        rw [PyProof.Rows.sortedHeap_old (Nat.ne_of_lt hlt) (Heap.lt_size hb2)]
        exact hb2
      · rw [List.length_map, List.length_mergeSort]
        have : ps.length = as.length := by simp [ps, itemsD]; omega
        omega
  refine wpAny_bind (wpAny_holding (wpAny_mono key (fun _ s' x => ?_) fun _ _ e => e))
  exact wpAny_pure ⟨_, rfl, x⟩
section
variable {X : Cx} {C : Cf} {Ml M : List Md} {rk : Kd} {Wx : WX} {pos apos cpos p p2 p3 : Pos} {G : Gx}
def sortItW (k : Kd) : D → W D := fun x Q _ => match x with | .dct ks ds => upL k ds ∧ sortOk (itemsD ks ds) = true ∧ Q (.lst (sortD (itemsD ks ds))) | _ => False
theorem items_is {F F2 H' : Hp} (ff : Ex F F2) (ht : ∀ a xs, H' a = some (.tup xs) → F2 a = some (.tup xs)) : ∀ {ts : List Addr} {kvs : List (Key × V)} {ds : List D}, Paired (fun (t : Addr) (q : Key × V) => H' t = some (.tup [kV q.1, q.2])) ts kvs → IsL G F ds (kvs.map Prod.snd) → IsL G F2 (itemsD (kvs.map Prod.fst) ds) (ts.map V.ref)
  | _, _, ds, .nil, h => by
    cases ds with
    | nil => exact rfl
    | cons d ds => obtain ⟨v, r, e, _⟩ := h; cases e
  | t :: ts, q :: kvs, [], _, h => by cases h
  | t :: ts, q :: kvs, d :: ds, .cons h1 h2, h => by
    obtain ⟨v, r, e, i1, i2⟩ := h
    injection e with e1 e2
    subst e1 e2
    refine ⟨.ref t, ts.map V.ref, rfl, ⟨t, [kV q.1, q.2], rfl, ht _ _ h1, kV q.1, [q.2], rfl, ?_, q.2, [], rfl, Is.mono ff _ _ i1, rfl⟩, items_is ff ht h2 i2⟩
    obtain ⟨k, w⟩ := q
    cases k <;> exact rfl
theorem uns_sortIt {k1 : Kd} : UnS G k1 (.n 1) (fun v H Q => rSortIt G.K v H Q) (sortItW k1) := by
  intro F H fh po x v hx Qd Ed Q hw hq
  cases x <;> try exact hw.elim
  rename_i ks ds
  obtain ⟨hup, ok, hw⟩ := hw
  have i1 := hx.at fh
  obtain ⟨a, vs, rfl, h1, h2, h3⟩ := i1
  subst h2
  have hlen : vs.length = ds.length := by have := h3.len; simpa using this
  have hpl : ∀ x ∈ ds, plain 49 x = true := by
    intro x hx
    obtain ⟨j, hj, rfl⟩ := List.mem_iff_getElem.mp hx
    have hj2 : j < (vs.map Prod.fst).length := by rw [List.length_map]; omega
    have hm : D.tup [kD ((vs.map Prod.fst)[j]), ds[j]] ∈ itemsD (vs.map Prod.fst) ds := by
      unfold itemsD
      refine List.mem_map.mpr ⟨((vs.map Prod.fst)[j], ds[j]), ?_, rfl⟩
      rw [← List.getElem_zip (h := by rw [List.length_zip]; omega)]
      exact List.getElem_mem _
    have := sortOk_plain ok _ hm
    have this : [kD ((vs.map Prod.fst)[j]), ds[j]].all (plain 49) = true := this
    simp only [List.all_cons, Bool.and_eq_true] at this
    exact this.2.1
  refine ⟨a, vs, ds, rfl, h1, hlen, fun H' e p hp => ?_, ok, fun H' p ts e new pr hp => ?_⟩
  · obtain ⟨z1, z2, z3⟩ := zip_is h3
    have : ∀ (vs : List (Key × V)) (ds : List D), IsL G H ds (vs.map Prod.snd) → ∀ p ∈ vs.zip ds, Is G H p.2 p.1.2 := by
      intro vs
      induction vs with
      | nil => intro ds _ p hp; simp at hp
      | cons q vs ih =>
        intro ds h p hp
        cases ds with
        | nil => simp at hp
        | cons d ds =>
          obtain ⟨v, r, e, i1, i2⟩ := h
          injection e with e1 e2
          subst e1 e2
          rcases List.mem_cons.mp hp with rfl | hp
          · exact i1
          · exact ih ds i2 p hp
    have hpp := this vs ds h3 p hp
    exact Is.dp 49 p.2 p.1.2 (hpl _ (List.of_mem_zip hp).2) (Is.mono e _ _ hpp)
  · -- the values frozen
    have up : ∃ F1, Gr G.pl F H F1 H ∧ IsL G F1 ds (vs.map Prod.snd) := by
      cases k1 with
      | v =>
        obtain ⟨a', vs', e', q1, q2, q3⟩ := hx
        cases e'
        have : vs' = vs := by
          have q1' := (fh.trans hid_ex).rd q1
          rcases h1 with h1 | ⟨o, h1⟩ <;> rcases q1' with q | ⟨o', q⟩ <;> rw [h1] at q <;> cases q <;> rfl
        subst this
        exact ⟨F, Gr.refl fh po, q3⟩
      | r =>
        rcases hup with u | u
        · cases u
        · refine ⟨tps F H, Gr.tps fh po, IsL.im (fun a xs e => ?_) _ _ u h3⟩
          unfold DL.tps
          cases e2 : F a with
          | none => simp [e]
          | some o =>
            have := (hid_some (fh a o e2)).2
            rw [e] at this
            cases this
            rfl
      | n n => exact hx.elim
    obtain ⟨F1, g1, i2⟩ := up
    have g2 : Gr G.pl F1 H F1 H' := Gr.same g1.fh g1.pool e
    have g3 := Gr.tps (pl := G.pl) (F := F1) (H := H') g2.fh g2.pool
    have g := (g1.trans g2).trans g3
    have i3 := items_is (G := G) (F2 := tps F1 H') g3.ff (fun a xs e => by
      unfold DL.tps
      cases e2 : F1 a with
      | none => simp [e]
      | some o =>
        have := (hid_some (g2.fh a o e2)).2
        rw [e] at this
        cases this
        rfl) pr i2
    obtain ⟨z1, z2, z3⟩ := zip_is i3
    have i4 := is_of_zip (G := G) (H := tps F1 H') (ps := ((itemsD (vs.map Prod.fst) ds).zip (ts.map V.ref)).mergeSort leP) fun p hp => z3 p ((List.mergeSort_perm _ _).mem_iff.mp hp)
    rw [sort_fst, z1] at i4
    exact fin_lst (Qd := Qd) g.fh g.pool (fun d z F' H2 gg k q => hq d z F' H2 (g.trans gg) (k.gr fun a ha => g.back g.pool a ha) q) i4 hw hp
theorem de_sortIt {e : Expr} {k1 : Kd} {we : Env → W D} (hc : X.calm = true) (hu : X.A.units + 62 < cLine) (he : DE X C M Wx k1 e we) (hg : Gl X "sorted") (hm : X.mg "sorted" = none) (h1 : k1.isN = false := by rfl) (hbase : attributeBase e "items" X.env (eval e X.env) = eval e X.env := by rfl) (hline : (apos.endLine == cpos.line) = true := by rfl)
    (hs : starEach [.Call (.Attribute e "items" apos) [] [] cpos] X.env = (false, eval (.Call (.Attribute e "items" apos) [] [] cpos) X.env) :: starEach [] X.env := by rfl) :
    DE X C M Wx (.n 1) (.Call (.Name "sorted" p) [.Call (.Attribute e "items" apos) [] [] cpos] [] pos) (unW (sortItW k1) we) := by
  obtain ⟨te, pe, se⟩ := he.ex
  refine ⟨_, pe_sortIt hc hu pe hg hm hbase hline hs, fun F H σ ρ s Qd Ed Q hw hq hx => ?_⟩
  refine se F H σ ρ s _ Ed _ hw (fun d v F1 H1 g1 i1 hw2 => ?_) hx
  refine uns_sortIt (G := gx X C) (k1 := k1) F1 H1 g1.fh g1.pool d v (KIn.of h1 i1) Qd Ed Q hw2 fun d3 z F3 H3 g3 k3 q => ?_
  exact hq d3 z F3 H3 (g1.trans g3) (k3.gr fun a ha => g1.back g1.pool a ha) q
/-! d.get(k, x) -/
def getCW (k1 : Kd) (wd wk wx : Env → W D) : Env → W D := fun ρ Q E => wd ρ (fun x => match x with
  | .dct ks ds => wk ρ (fun y => wx ρ (fun z => match keyOf y with | some k => upOk k1 ((dget ks ds k).getD .non) ∧ Q ((dget ks ds k).getD z) | none => False) E) E
  | _ => False) E
theorem de_get {o e f : Expr} {k1 : Kd} {wd wk wx : Env → W D} (hu : X.A.units + 1 < cLine) (ho : DE X C M Wx k1 o wd) (he : DE X C M Wx .v e wk) (hf : DE X C M Wx .v f wx) (m : M2 X o "get" apos e f cpos) (h1 : k1.isN = false := by rfl) : DE X C M Wx .v (.Call (.Attribute o "get" apos) [e, f] [] cpos) (getCW k1 wd wk wx) := by
  obtain ⟨to, po, so⟩ := ho.ex
  obtain ⟨tk, pk, sk⟩ := he.ex
  obtain ⟨tx, px, sx⟩ := hf.ex
  refine ⟨_, pe_dget2 hu po pk px m, fun F H σ ρ s Qd Ed Q hw hq hx => ?_⟩
  refine so F H σ ρ s _ Ed _ hw (fun d v F1 H1 g1 i1 hw2 => ?_) hx
  have j1 := (KIn.of h1 i1 : KIn (gx X C) F1 H1 k1 d v)
  cases d <;> try exact hw2.elim
  · rename_i ks ds
    have hw2 : wk ρ (fun y => wx ρ (fun z => match keyOf y with | some k => upOk k1 ((dget ks ds k).getD .non) ∧ Qd ((dget ks ds k).getD z) | none => False) Ed) Ed := hw2
    obtain ⟨a, vs, rfl, q1, q2, q3⟩ := j1.ih (G := gx X C) g1.fh
    subst q2
    refine ⟨a, rfl, .inl ⟨vs, (hid_ex).rd q1⟩, ?_⟩
    refine sk F1 H1 σ ρ (s.gr g1) _ Ed _ hw2 (fun d2 v2 F2 H2 g2 i2 hw3 => ?_) fun x cls dd F2 H2 g2 => hx x cls dd F2 H2 (g1.trans g2)
    have g12 := g1.trans g2
    refine sx F2 H2 σ ρ (s.gr g12) _ Ed _ hw3 (fun d3 v3 F3 H3 g3 i3 hw4 => ?_) fun x cls dd F2 H2 g2 => hx x cls dd F2 H2 (g12.trans g2)
    have g13 := g12.trans g3
    replace hw4 : match keyOf d2 with | some k => upOk k1 ((dget (vs.map Prod.fst) ds k).getD .non) ∧ Qd ((dget (vs.map Prod.fst) ds k).getD d3) | none => False := hw4
    split at hw4
    · rename_i k ek
      have hw5 := hw4.2
      have hw6 := hw4.1
      have hex : Ex (hid C.pl H1) (hid C.pl H3) := hid_hid (g2.trans g3).hh
      have q1' : Rd H3 a (.dK vs) := hid_ex.rd (hex.rd q1)
      refine ⟨valV vs k, .inl ⟨vs, k, q1', keyOf_v i2 ek, rfl⟩, ?_⟩
      rcases valV_zip (k := k) q3 with ⟨e1, e2⟩ | ⟨dd, vv, e1, e2, i⟩
      · rw [e2]
        rw [e1] at hw4
        exact hq d3 v3 F3 H3 g13 i3 hw4.2
      · rw [e2]
        rw [e1] at hw4
        cases k1 with
        | v =>
          obtain ⟨a', vs', e', r1, r2, r3⟩ := j1
          cases e'
          have : vs' = vs := by
            have q1'' := (g1.fh).rd r1
            rcases q1 with h1 | ⟨o, h1⟩ <;> rcases q1'' with q | ⟨o', q⟩ <;> rw [h1] at q <;> cases q <;> rfl
          subst this
          rcases valV_zip (k := k) r3 with ⟨f1, f2⟩ | ⟨dd', vv', f1, f2, i'⟩
          · rw [f1] at e1; cases e1
          · rw [f1] at e1; cases e1
            rw [f2] at e2; cases e2
            exact hq dd vv F3 H3 g13 (Is.mono (g2.trans g3).ff _ _ i') hw4.2
        | r =>
          rcases hw4.1 with u | u
          · cases u
          · exact hq dd vv _ H3 (g13.trans (Gr.tps g13.fh g13.pool)) (Is.up g13.fh u (Is.mono hid_ex _ _ (Is.mono hex _ _ i))) hw4.2
        | n n => cases h1
    · cases hw4
end
end DL

namespace DL
open PySem PySem.Spec PyProof.Rows L2

section
variable {X : Cx} {C : Cf} {Ml M : List Md} {rk : Kd} {Wx : WX} {pos apos cpos p p2 p3 : Pos} {G : Gx}
def rGetL : V → V → Hp → VK → Prop := fun o i H Q => ∃ l xs k x, o = .ref l ∧ i = .int k ∧ H l = some (.lst xs) ∧ 0 ≤ k ∧ xs[k.toNat]? = some x ∧ Q x H
theorem pget_list : PGet X rGetL := by
  intro pins s σ H o i ov iv Q I ro ri h
  obtain ⟨l, xs, k, x, rfl, rfl, hl, h0, hx, q⟩ := h
  cases ro
  obtain ⟨t, rfl⟩ := ri
  obtain ⟨its, n, r, ho, hz⟩ := I.lst hl
  obtain ⟨w, ew, rw'⟩ := r.get hx
  have hn := line63
  have hlt : k.toNat < its.length := (List.getElem?_eq_some_iff.mp ew).1
  have hs : sizeLine = 16777216 := sizeLine_eq
  have hle := r.length
  exact wpAny_getItem_list ⟨_, ho, rfl, n, rfl⟩ h0 (by omega) (by simpa using ew) ⟨x, H, I, rw', q⟩
/-- x[k] += e, whole numbers, 0 ≤ k -/
def augIxW (i : Nat) (wk we : Env → W D) : Env → W Fl := fun ρ Q E => lstAt ρ i fun xs => wk ρ (fun k => match k with
  | .int k => 0 ≤ k ∧ (match xs[k.toNat]? with | some (.int a) => we ρ (fun d => match d with | .int b => Q (.next (ρ.set i (some (.lst (xs.set k.toNat (.int (a + b))))))) | _ => False) E | _ => False)
  | _ => False) E
theorem ds_augIx {i : Nat} {x : Str} {e k : Expr} {we wk : Env → W D} (hM : ownAt M i = some 1) (hN : X.N[i]? = some x) (hv : Vis X.env.scope x) (he : DE X C M Wx .v e we) (hk : DE X C M Wx .v k wk) (hd : (x == ("__debug__" : Str)) = false := by decide) (hcd : (x == ("__classdict__" : Str)) = false := by decide)
    (ha : ∀ ov iv new, augStore k ov iv new = (do holding [new, ov, iv] (setItem ov iv new); release [new, ov, iv] []; pure .next) := by intros; rfl) :
    DS X C Ml rk Wx M M (.AugAssign (.Subscript (.Name x p2) k p3) .Add e pos) (augIxW i wk we) := by
  obtain ⟨te, pe, se⟩ := he.ex
  obtain ⟨tk, pk, sk⟩ := hk.ex
  refine ⟨_, ps_augS (pe_var hN hv hd hcd) pk pget_list pe ip_add set_list ha, fun F H σ ρ r Qd Ed D_ hw hn _ _ _ hx => ?_⟩
  obtain ⟨xs, e0, hw⟩ := lstAt_some hw
  obtain ⟨v, fp, e1, o1, _, _, _⟩ := r.mut (Gr.refl r.base.fh r.base.pool) hM e0
  refine ⟨v, e1, ?_⟩
  refine sk F H σ ρ r _ Ed _ hw (fun d2 u2 F1 H1 g k2 hw2 => ?_) fun x cls dd F' H' g i q => hx x cls dd σ F' H' g.ff (r.base.gr g) i q
  cases d2 <;> try exact hw2.elim
  rename_i kk
  obtain ⟨h0, hw2⟩ := (show 0 ≤ kk ∧ (match xs[kk.toNat]? with | some (.int a) => we ρ (fun d => match d with | .int b => Qd (.next (ρ.set i (some (.lst (xs.set kk.toNat (.int (a + b))))))) | _ => False) Ed | _ => False) from hw2)
  split at hw2
  · rename_i a ea
    obtain ⟨v', fp, e1', o1, nd, out, _⟩ := r.mut g hM e0
    rw [e1] at e1'; cases e1'
    obtain ⟨l, vs, r1, rfl, q1, q2, q3, rfl⟩ := own_lst o1
    obtain ⟨i3, _⟩ := zero_own q3
    obtain ⟨v0, h5, h6⟩ := i3.get ea
    have h6 : v0 = .int a := h6
    subst h6
    refine ⟨l, vs, kk, .int a, rfl, k2, q2, h0, h5, ?_⟩
    refine se F1 H1 σ ρ (r.gr g) _ Ed _ hw2 (fun d3 u3 F2 H2 g2 k3 hw3 => ?_) fun x cls dd F' H' g2 i q => hx x cls dd σ F' H' (g.trans g2).ff (r.base.gr (g.trans g2)) i q
    cases d3 <;> try exact hw3.elim
    rename_i b
    refine ⟨a, b, rfl, k3, ?_⟩
    have g12 := g.trans g2
    obtain ⟨v', fp, e1', o1, nd, out, fin⟩ := r.mut g12 hM e0
    rw [e1] at e1'; cases e1'
    obtain ⟨l', vs', r1', el, q1, q2, q3, rfl⟩ := own_lst o1
    cases el
    obtain ⟨i4, rfl⟩ := zero_own q3
    have hlt : kk.toNat < xs.length := (List.getElem?_eq_some_iff.mp ea).1
    have hix : ixN vs'.length kk = some kk.toNat := by
      unfold ixN
      rw [if_pos h0, if_pos (by rw [i4.len]; omega)]
    refine ⟨l, vs', kk, kk.toNat, rfl, k2, q2, hix, ?_⟩
    have iset : IsL (gx X C) F2 (xs.set kk.toNat (.int (a + b))) (vs'.set kk.toNat (.int (a + b))) := by
      have : ∀ (ds : List D) (ws : List V) (j : Nat), IsL (gx X C) F2 ds ws → IsL (gx X C) F2 (ds.set j (.int (a + b))) (ws.set j (.int (a + b))) := by
        intro ds
        induction ds with
        | nil => intro ws j h; rw [show ws = [] from h]; exact rfl
        | cons d ds ih =>
          intro ws j h
          obtain ⟨w, r, rfl, z1, z2⟩ := h
          cases j with
          | zero => exact ⟨_, r, rfl, rfl, z2⟩
          | succ j => exact ⟨w, _, rfl, z1, ih r j z2⟩
      exact this _ _ _ i4
    exact hn σ _ F2 _ g12.ff (fin (upd H2 l (.lst (vs'.set kk.toNat (.int (a + b))))) (.lst _) [l] (fun z o hz e => by rw [upd_ne (fun y => hz (by simp [y]))]; exact e) ⟨l, _, [], rfl, q1, upd_same, OwnL.of iset, rfl⟩ nd fun z hz => .inl hz) hw3
  · cases hw2
end
end DL

namespace DL
open PySem PySem.Spec PyProof.Rows L2

section
variable {X : Cx} {C : Cf} {Ml M : List Md} {rk : Kd} {Wx : WX} {pos apos cpos p p2 p3 : Pos} {G : Gx}
/-! ### order of data -/
def ordOk (x y : D) : Prop := plain 50 x = true ∧ plain 50 y = true ∧ alikeD x y = true ∧ py x ≠ .none
def ordW (f : D → D → Bool) : D → D → W D := fun x y Q _ => ordOk x y ∧ Q (.bl (f x y))
def ltD (x y : D) : Bool := PySem.W.dataLt (py x) (py y)
def rOrd (K : PySem.W.Frag) (f : PyData → PyData → Bool) : R2 := fun x y H Q => ∃ d e, Dp K H x d ∧ Dp K H y e ∧ PySem.W.alike d e = true ∧ d ≠ .none ∧ d.depth ≤ 50 ∧ Q (.bl (f d e)) H
theorem op_ltO (hu : X.A.units + 64 < cLine) : OpR X (compareOp .Lt) (rOrd X.K fun d e => PySem.W.dataLt d e) := by
  intro pins s σ H x y v u Q I rx ry h
  obtain ⟨d, e, hd, he, al, nn, dp, q⟩ := h
  obtain ⟨as, r1⟩ := Dp.reads I d x v hd rx
  obtain ⟨bs, r2⟩ := Dp.reads I e y u he ry
  exact PySem.W.lt_data r1 r2 al nn (by omega) ⟨.bl _, H, I, rfl, q⟩
theorem op_leO (hu : X.A.units + 64 < cLine) : OpR X (compareOp .LtE) (rOrd X.K fun d e => !PySem.W.dataLt e d) := by
  intro pins s σ H x y v u Q I rx ry h
  obtain ⟨d, e, hd, he, al, nn, dp, q⟩ := h
  obtain ⟨as, r1⟩ := Dp.reads I d x v hd rx
  obtain ⟨bs, r2⟩ := Dp.reads I e y u he ry
  exact PySem.W.le_data r1 r2 al nn (by omega) ⟨.bl _, H, I, rfl, q⟩
theorem op_gtO (hu : X.A.units + 64 < cLine) : OpR X (compareOp .Gt) (rOrd X.K fun d e => PySem.W.dataLt e d) := by
  intro pins s σ H x y v u Q I rx ry h
  obtain ⟨d, e, hd, he, al, nn, dp, q⟩ := h
  obtain ⟨as, r1⟩ := Dp.reads I d x v hd rx
  obtain ⟨bs, r2⟩ := Dp.reads I e y u he ry
  exact PySem.W.gt_data r1 r2 al nn (by omega) ⟨.bl _, H, I, rfl, q⟩
theorem op_geO (hu : X.A.units + 64 < cLine) : OpR X (compareOp .GtE) (rOrd X.K fun d e => !PySem.W.dataLt d e) := by
  intro pins s σ H x y v u Q I rx ry h
  obtain ⟨d, e, hd, he, al, nn, dp, q⟩ := h
  obtain ⟨as, r1⟩ := Dp.reads I d x v hd rx
  obtain ⟨bs, r2⟩ := Dp.reads I e y u he ry
  exact PySem.W.ge_data r1 r2 al nn (by omega) ⟨.bl _, H, I, rfl, q⟩
theorem ops_ord {k1 k2 : Kd} (f : PyData → PyData → Bool) : OpS G k1 k2 .v (rOrd G.K f) (ordW fun x y => f (py x) (py y)) := by
  intro F H fh po x y v u hx hy Qd Ed Q hw hq
  obtain ⟨⟨p1, p2, al, nn⟩, q⟩ := hw
  exact ⟨py x, py y, Is.dp 50 x v p1 (hx.at fh), Is.dp 50 y u p2 (hy.at fh), al, nn, (plain_lay 50 x p1).2, fin0 (.inl rfl) fh po hq (d := .bl _) (fun _ => rfl) q⟩
/-! ### pow, // of great ones -/
def powW : D → D → W D := fun x y Q _ => match x, y with | .int i, .int j => CPow i j ∧ Q (.int (i ^ j.toNat)) | _, _ => False
theorem ops_pow {k1 k2 : Kd} : OpS G k1 k2 .v (rI CPow fun i j => .int (i ^ j.toNat)) powW := by
  intro F H fh po x y v u hx hy Qd Ed Q hw hq
  cases x <;> try exact hw.elim
  cases y <;> try exact hw.elim
  exact ⟨_, _, hx.int, hy.int, hw.1, fin0 (.inl rfl) fh po hq (d := .int _) (fun _ => rfl) hw.2⟩
/-! ### a slice of a list, of a tuple -/
def sliceB (lo hi : Option Int) : D → Option D
  | .tup xs => some (.tup (cutD xs lo hi))
  | .lst xs => some (.lst (cutD xs lo hi))
  | .scr ns => some (.lst (cutD (ns.map .int) lo hi))
  | _ => none
def sliceW (we : Env → W D) (wl wh : Env → W (Option Int)) : Env → W D := fun ρ Q E => we ρ (fun x => wl ρ (fun lo => wh ρ (fun hi => match sliceB lo hi x with | some d => Q d | none => False) E) E) E
theorem de_slice {e : Expr} {lo hi : Option Expr} {p2 : Pos} {we : Env → W D} {wl wh : Env → W (Option Int)} (he : DE X C M Wx .v e we) (hl : DPO X C M Wx lo wl) (hh : DPO X C M Wx hi wh) : DE X C M Wx .v (.Subscript e (.Slice lo hi none p2) pos) (sliceW we wl wh) := by
  obtain ⟨te, p, s⟩ := he.ex
  obtain ⟨tl, pl, sl⟩ := hl.ex
  obtain ⟨th, ph, sh⟩ := hh.ex
  refine ⟨_, pe_slice (sl_tupA.or sl_list) p pl ph, fun F H σ ρ r Qd Ed Q hw hq hx => ?_⟩
  refine s F H σ ρ r _ Ed _ hw (fun d v F1 H1 g1 i1 hw2 => ?_) hx
  refine sl F1 H1 σ ρ (r.gr g1) _ Ed _ hw2 (fun lo F2 H2 g2 hw3 => ?_) fun x cls dd F2 H2 g2 => hx x cls dd F2 H2 (g1.trans g2)
  have g12 := g1.trans g2
  refine sh F2 H2 σ ρ (r.gr g12) _ Ed _ hw3 (fun hi F3 H3 g3 hw4 => ?_) fun x cls dd F2 H2 g2 => hx x cls dd F2 H2 (g12.trans g2)
  have g13 := g12.trans g3
  have fin : ∀ {ds : List D} {vs : List V} (_ : IsL (gx X C) F3 ds vs) (_ : Qd (.lst ds)) {p : Addr} (_ : H3 p = none), Q (.ref p) (upd H3 p (.lst vs)) := fun {ds vs} i q {p} hp => by
    have g := Gr.new (o := .lst vs) g13.fh g13.pool hp
    exact hq (.lst ds) (.ref p) _ _ (g13.trans g) ⟨p, vs, rfl, upd_same, IsL.mono g.ff ds vs i⟩ q
  split at hw4
  · rename_i d2 e2
    cases d with
    | tup xs =>
      cases e2
      have i3 : Is (gx X C) F3 (.tup xs) v := Is.mono (g2.trans g3).ff _ _ i1
      obtain ⟨a, vs, rfl, h1, h2⟩ := i3
      refine .inl ⟨a, vs, rfl, (g3.fh.trans hid_ex).st h1.sq, fun hc => ?_, fun _ p hp => ?_⟩
      · rw [h2.len] at hc
        rw [cutD_all hc.1 hc.2] at hw4
        exact hq (.tup xs) _ F3 H3 g13 (show Is (gx X C) F3 (.tup xs) _ from ⟨a, vs, rfl, h1, h2⟩) hw4
      · exact fin_tup (G := gx X C) g13.fh g13.pool (fun d z F' H' g k q => hq d z F' H' (g13.trans g) k q) (h2.cut lo hi) hw4 hp
    | lst xs =>
      cases e2
      have i3 : Is (gx X C) F3 (.lst xs) v := Is.mono (g2.trans g3).ff _ _ i1
      obtain ⟨a, vs, rfl, h1, h2⟩ := i3
      exact .inr ⟨a, vs, rfl, .inl (.inl (hid_some (g3.fh _ _ h1)).2), fun p hp => fin (h2.cut lo hi) hw4 hp⟩
    | scr ns =>
      cases e2
      obtain ⟨a, rfl, h1⟩ : Is (gx X C) F1 (.scr ns) v := i1
      exact .inr ⟨a, ns.map V.int, rfl, ((g2.trans g3).ff.trans (g13.fh.trans hid_ex)).sl h1, fun p hp => fin ((ints_is ns).cut lo hi) hw4 hp⟩
    | _ => cases e2
  · cases hw4

/-! ### the draw -/
def drawW : List D → W D := fun ds Q _ => match ds with | [.pool, .int n] => (0 < n ∧ n < 1073741824) ∧ ∀ k : Int, 0 ≤ k → k < n → Q (.int k) | _ => False
def spDraw : Sp := fun vs H Q _ => ∃ (p c : Addr) (s n m : Int) (xs : List Int), vs = [.ref p, .int m] ∧ p ≠ c ∧ H p = some (.lst [.int s, .int n, .ref c]) ∧ H c = some (.lst (xs.map V.int)) ∧ 0 < m ∧ m < 1073741824 ∧
  ∀ (k : Int) (s' n' : Int) (xs' : List Int) (H' : Hp), 0 ≤ k → k < m → (∀ a, a ≠ p → a ≠ c → H' a = H a) → H' p = some (.lst [.int s', .int n', .ref c]) → H' c = some (.lst (xs'.map V.int)) → Q (.int k) H'
abbrev rAdd0 : R2 := rI0 fun i j => .int (i + j)
abbrev rMod0 : R2 := rI (fun _ j => 0 < j) fun i j => .int (i % j)
abbrev rDiv0 : R2 := rI CDiv fun i j => .int (i / j)
abbrev rMul0 : R2 := rI CMul fun i j => .int (i * j)
abbrev rInt0 : List V → Hp → VK → Prop := fun xs H Q => (∃ i, xs = [.int i] ∧ Q (.int i) H) ∨ ∃ k, xs = [.bl k] ∧ Q (.int (if k then 1 else 0)) H
abbrev rGt0 : R2 := rI0 fun i j => .bl (decide (j < i))
abbrev tIt (K : PySem.W.Frag) (i j : Int) : TE := tOp (rIxL K) (tVar i.toNat) (tC (.int j))
abbrev tInt0 (t : TE) : TE := tCB rInt0 (L2.tCons t L2.tNil)
abbrev rLen0 (K : PySem.W.Frag) : List V → Hp → VK → Prop := fun xs H Q => ∃ x n, xs = [x] ∧ LenV K x H n ∧ Q (.int n) H
def t_draw (K : PySem.W.Frag) : TS :=
  tSeq (tAsg (tOp rAdd0 (tOp (rIxL K) (tVar 0) (tC (.int 1))) (tC (.int 1))) (gSub (tVar 0) (tC (.int 1)) rSetL))
  (tSeq (tAsg (tOp (rIxL K) (tVar 0) (tC (.int 2))) (gName 2))
  (tSeq (tIfS (tTest (tOp rGt0 (tCB (rLen0 K) (L2.tCons (tVar 2) L2.tNil)) (tC (.int 0))))
      (tSeq (tAsg (tOp rMod0 (tInt0 (tOp (rIxL K) (tVar 2) (tC (.int 0)))) (tVar 1)) (gName 3))
      (tSeq (tAsg (tOp rDiv0 (tInt0 (tOp (rIxL K) (tVar 2) (tC (.int 0)))) (tVar 1)) (gSub (tVar 2) (tC (.int 0)) rSetL))
      (tSeq (tIfS (tTest (tOp (rEqD K) (tOp (rIxL K) (tVar 2) (tC (.int 0))) (tC (.int 0)))) (tDrop (tBM K "list" rPopAt (tVar 2) (L2.tCons (tC (.int 0)) L2.tNil))) tNext)
      (tRet (tVar 3))))) tNext)
  (tSeq (tAsg (tOp rMod0 (tInt0 (tOp rMul0 (tOp rAdd0 (tOp (rIxL K) (tVar 0) (tC (.int 0))) (tOp rMul0 (tC (.int 7919)) (tOp (rIxL K) (tVar 0) (tC (.int 1))))) (tC (.int 48271)))) (tC (.int 2147483647))) (gName 4))
  (tSeq (tAsg (tOp rMod0 (tInt0 (tOp rMul0 (tVar 4) (tOp rAdd0 (tOp rDiv0 (tVar 4) (tC (.int 1009))) (tC (.int 69621))))) (tC (.int 2147483647))) (gName 4))
  (tSeq (tAsg (tOp rMod0 (tInt0 (tOp rMul0 (tVar 4) (tOp rAdd0 (tOp rDiv0 (tVar 4) (tC (.int 2003))) (tC (.int 40692))))) (tC (.int 2147483399))) (gName 4))
  (tRet (tOp rMod0 (tInt0 (tOp rDiv0 (tVar 4) (tC (.int 16)))) (tVar 1))))))))
theorem draw_run {K : PySem.W.Frag} {N : List Str} {vs : List V} {H : Hp} {Q : VK} {E : XK} {D : Ends} (hN : N.length = 5) (hD : D.rt = Q) (h : spDraw vs H Q E) : t_draw K D (L2.start N vs) H := by
  obtain ⟨p, c, s, n, m, xs, rfl, ne, hp, hc, m0, m1, q⟩ := h
  have hst : L2.start N [V.ref p, V.int m] = [some (.ref p), some (.int m), none, none, none] := by
    unfold L2.start
    simp [hN, List.replicate]
  rw [hst]
  have sl : ∀ {H : Hp} {a : Addr} {ys : List V}, H a = some (.lst ys) → SqL K H a ys := fun h => .inl (.inl h)
  -- pool[1] = pool[1] + 1
  refine ⟨_, rfl, p, _, 1, .int n, rfl, rfl, sl hp, rfl, n, 1, rfl, rfl, ?_⟩
  refine ⟨_, rfl, p, _, 1, 1, rfl, rfl, hp, rfl, ?_⟩
  have hp1 : upd H p (.lst [.int s, .int (n + 1), .ref c]) p = some (.lst [.int s, .int (n + 1), .ref c]) := upd_same
  have hc1 : upd H p (.lst [.int s, .int (n + 1), .ref c]) c = some (.lst (xs.map V.int)) := by rw [upd_ne (Ne.symm ne)]; exact hc
  show tSeq _ _ D _ (upd H p (.lst [.int s, .int (n + 1), .ref c]))
  have hh : ∀ a, a ≠ p → a ≠ c → upd H p (.lst [.int s, .int (n + 1), .ref c]) a = H a := fun a h1 _ => upd_ne h1
  generalize upd H p (.lst [.int s, .int (n + 1), .ref c]) = H1 at hp1 hc1 hh ⊢
  -- cells
  refine ⟨_, rfl, p, _, 2, .ref c, rfl, rfl, sl hp1, rfl, ?_⟩
  refine ⟨_, rfl, _, (xs.map V.int).length, rfl, .inl ⟨_, sl hc1, rfl⟩, _, 0, rfl, rfl, decide (0 < ((xs.map V.int).length : Int)), rfl, ?_⟩
  cases xs with
  | cons x xs =>
    rw [if_pos (by simp)]
    have at0 : ∀ (y : V) (ys : List V), L2.atI (y :: ys) 0 = some y := fun y ys => by simp [L2.atI, ixN]
    have ix0 : ∀ (y : V) (ys : List V), ixN (y :: ys).length 0 = some 0 := fun y ys => by simp [ixN]
    refine ⟨_, rfl, c, _, 0, .int x, rfl, rfl, sl hc1, at0 _ _, .inl ⟨x, rfl, _, rfl, x, m, rfl, rfl, m0, ?_⟩⟩
    refine ⟨_, rfl, c, _, 0, .int x, rfl, rfl, sl hc1, at0 _ _, .inl ⟨x, rfl, _, rfl, x, m, rfl, rfl, ⟨m0, m1⟩, ?_⟩⟩
    refine ⟨_, rfl, c, _, 0, 0, rfl, rfl, hc1, ix0 _ _, ?_⟩
    have hc2 : upd H1 c (.lst ((x / m :: xs).map V.int)) c = some (.lst ((x / m :: xs).map V.int)) := upd_same
    have hp2 : upd H1 c (.lst ((x / m :: xs).map V.int)) p = some (.lst [.int s, .int (n + 1), .ref c]) := by rw [upd_ne ne]; exact hp1
    have hh2 : ∀ a, a ≠ p → a ≠ c → upd H1 c (.lst ((x / m :: xs).map V.int)) a = H a := fun a h1 h2 => by rw [upd_ne h2]; exact hh a h1 h2
    show tSeq _ _ _ _ (upd H1 c (.lst ((x / m :: xs).map V.int)))
    generalize upd H1 c (.lst ((x / m :: xs).map V.int)) = H2 at hc2 hp2 hh2 ⊢
    have k0 : 0 ≤ x % m := Int.emod_nonneg x (by omega)
    have k1 : x % m < m := Int.emod_lt_of_pos x m0
    refine ⟨_, rfl, c, _, 0, .int (x / m), rfl, rfl, sl hc2, at0 _ _, .int (x / m), .int 0, .int _, .int _, rfl, rfl, _, rfl, ?_⟩
    cases PyData.eqv (.int (x / m)) (.int 0) with
    | true =>
      rw [if_pos rfl]
      refine ⟨_, rfl, .inl ⟨rfl, _, sl hc2⟩, c, _, 0, 0, .int (x / m), rfl, rfl, hc2, by decide, by decide, by simp [seqIndex?], rfl, ?_⟩
      refine ⟨_, rfl, ?_⟩
      show D.rt _ _
      rw [hD]
      refine q (x % m) s (n + 1) xs _ k0 k1 (fun a h1 h2 => by rw [upd_ne h2]; exact hh2 a h1 h2) (by rw [upd_ne ne]; exact hp2) ?_
      rw [upd_same]
      rfl
    | false =>
      rw [if_neg Bool.false_ne_true]
      refine ⟨_, rfl, ?_⟩
      show D.rt _ _
      rw [hD]
      exact q (x % m) s (n + 1) (x / m :: xs) _ k0 k1 hh2 hp2 hc2
  | nil =>
    rw [if_neg (by simp)]
    have b1 : ∀ z : Int, 0 ≤ z % 2147483647 ∧ z % 2147483647 < 2147483647 := fun z => ⟨Int.emod_nonneg z (by decide), Int.emod_lt_of_pos z (by decide)⟩
    have b2 : ∀ z : Int, 0 ≤ z % 2147483399 ∧ z % 2147483399 < 2147483399 := fun z => ⟨Int.emod_nonneg z (by decide), Int.emod_lt_of_pos z (by decide)⟩
    refine ⟨_, rfl, p, _, 0, .int s, rfl, rfl, sl hp1, rfl, ⟨_, rfl, p, _, 1, .int (n + 1), rfl, rfl, sl hp1, rfl, 7919, n + 1, rfl, rfl, .inl ⟨by decide, by decide⟩, s, _, rfl, rfl, ?_⟩⟩
    refine ⟨_, _, rfl, rfl, .inr ⟨by decide, by decide⟩, .inl ⟨_, rfl, _, 2147483647, rfl, rfl, (show (0 : Int) < 2147483647 by decide), ?_⟩⟩
    obtain ⟨c1, c2⟩ := b1 ((s + 7919 * (n + 1)) * 48271)
    show tSeq _ _ D [some (.ref p), some (.int m), some (.ref c), none, some (.int (((s + 7919 * (n + 1)) * 48271) % 2147483647))] H1
    generalize ((s + 7919 * (n + 1)) * 48271) % 2147483647 = z1 at c1 c2 ⊢
    refine ⟨_, rfl, _, rfl, z1, 1009, rfl, rfl, ⟨by decide, by decide⟩, _, 69621, rfl, rfl, _, _, rfl, rfl, .inl ⟨by omega, by omega⟩, .inl ⟨_, rfl, _, 2147483647, rfl, rfl, (show (0 : Int) < 2147483647 by decide), ?_⟩⟩
    obtain ⟨c3, c4⟩ := b1 (z1 * (z1 / 1009 + 69621))
    show tSeq _ _ D [some (.ref p), some (.int m), some (.ref c), none, some (.int ((z1 * (z1 / 1009 + 69621)) % 2147483647))] H1
    generalize (z1 * (z1 / 1009 + 69621)) % 2147483647 = z2 at c3 c4 ⊢
    refine ⟨_, rfl, _, rfl, z2, 2003, rfl, rfl, ⟨by decide, by decide⟩, _, 40692, rfl, rfl, _, _, rfl, rfl, .inl ⟨by omega, by omega⟩, .inl ⟨_, rfl, _, 2147483399, rfl, rfl, (show (0 : Int) < 2147483399 by decide), ?_⟩⟩
    refine ⟨_, rfl, _, 16, rfl, rfl, ⟨by decide, by decide⟩, .inl ⟨_, rfl, _, rfl, _, m, rfl, rfl, m0, ?_⟩⟩
    rw [hD]
    exact q _ s (n + 1) [] H1 (Int.emod_nonneg _ (by omega)) (Int.emod_lt_of_pos _ m0) hh hp1 hc1
end
/-- the draw's promise, in the data layer -/
theorem fn_draw {P : Program} {w : World} {K : PySem.W.Frag} {mg : Str → Option Value} {base : Heap} {x : Str} {st : Stmt} {N ps : List Str} (d : DefOk K mg x st) (S : FnScope N ps (defScope st)) (hN : N.length = 5) (hps : ps.length = 2)
    (hb : ∀ (kV doc pm : Value) (an : Option Addr) (cdv ct : Value) (us : List Value), us.length = ps.length → bindArgs (PySem.W.fnOf x x (defArgs st) (defBody st) (defScope st) .none kV doc pm an cdv ct) ⟨us, []⟩ = pure (ps.zip us))
    (hbody : ∀ (f : Addr) (cdv : Value) (A : Around) (outer : List PySem.Env) (s : Shared) (H : Hp) (E : XK), Room 0 (A.deeper (envOfC x (defScope st) s.heap.objs.size f cdv)) → PSs (cxOf (L2.CX P w) P w K mg base N x (defScope st) f cdv A outer s H E) (defBody st) (t_draw K)) :
    FnD P w K mg base x 1 [.v, .v] .v drawW := by
  obtain ⟨f, fd, Fd, hm⟩ := d.ex
  have Fu := fun_of Fd
  have key : ∀ vs H Q E, SpD K mg [.v, .v] .v drawW vs H Q E → spDraw vs H Q E := fun vs H Q E h => by
    obtain ⟨pl, F, ds, fh, po, a, Qd, Ed, hw, h1, h2⟩ := h
    have al := a.len
    match ds, vs, a, hw with
    | [d1, d2], [v1, v2], .cons a1 (.cons a2 .nil), hw =>
      cases d1 <;> try exact hw.elim
      cases d2 <;> try exact hw.elim
      rename_i m
      obtain ⟨⟨m0, m1⟩, hw⟩ := hw
      obtain ⟨p, rfl, hpl⟩ : ∃ p, v1 = .ref p ∧ pl.head? = some p := a1
      obtain rfl : v2 = .int m := a2
      match pl, po, hpl with
      | [p', c], ⟨ne, s, n, xs, hp, hc⟩, hpl =>
        cases hpl
        refine ⟨p, c, s, n, m, xs, rfl, ne, hp, hc, m0, m1, fun k s' n' xs' H' k0 k1 same hp' hc' => ?_⟩
        refine h1 (.int k) (.int k) F H' ⟨Ex.refl F, fun b o e => ?_, fun b o e => ?_, fun _ _ e => .inl e, ⟨ne, s', n', xs', hp', hc'⟩⟩ rfl (hw k k0 k1)
        · obtain ⟨z1, z2⟩ := hid_some (fh b o e)
          rw [hid_out z1, same b (fun z => z1 (by simp [z])) (fun z => z1 (by simp [z]))]
          exact z2
        · obtain ⟨z1, z2⟩ := hid_some e
          rw [same b (fun z => z1 (by simp [z])) (fun z => z1 (by simp [z]))]
          exact z2
  refine ⟨f, fd, ps, hm, Fu.kp, Fu.binds hb, Fu.okX S (fun vs H Q E h => ?_) fun cdv A outer s H vs Q E hr h => ⟨t_draw K, hbody f cdv A outer s H E hr, draw_run hN rfl (key vs H Q E h)⟩⟩
  obtain ⟨pl, F, ds, _, _, a, _⟩ := h
  rw [a.len.1, hps]
  rfl
end DL

namespace DL
open PySem PySem.Spec PyProof.Rows L2

/-! ### short words for printed terms -/
section
variable {X : Cx} {C : Cf} {Ml M M1 : List Md} {rk : Kd} {Wx : WX} {pos apos cpos p p2 p3 : Pos} {G : Gx}
theorem eV (i : Nat) {x : Str} (hM : M[i]? = some .v := by rfl) (hN : X.N[i]? = some x := by rfl) (hv : Vis X.env.scope x := by first | exact .inl rfl | exact .inr (.inl rfl) | exact .inr (.inr rfl)) (hd : (x == ("__debug__" : Str)) = false := by decide) (hcd : (x == ("__classdict__" : Str)) = false := by decide) :
    DE X C M Wx .v (.Name x pos) (varW i) := de_var hM hN hv hd hcd
theorem eR (i : Nat) {x : Str} (hN : X.N[i]? = some x := by rfl) (hv : Vis X.env.scope x := by first | exact .inl rfl | exact .inr (.inl rfl) | exact .inr (.inr rfl)) (hd : (x == ("__debug__" : Str)) = false := by decide) (hcd : (x == ("__classdict__" : Str)) = false := by decide) :
    DE X C M Wx .r (.Name x pos) (varW i) := de_varR hN hv hd hcd
theorem gN (i : Nat) {x : Str} (hN : X.N.Nodup) (hi : X.N[i]? = some x := by rfl) (hx : Loc X.env.scope x := by first | exact .inl rfl | exact .inr rfl) (hM : M[i]? = some .v := by rfl) (hf : X.fn x = true ∨ X.env.scope.names.lookup x = some .local := by first | exact .inl rfl | exact .inr rfl) : DG X C M [i] (.Name x pos) (tName i) := dg_name hN hi hx hM hf
theorem sV (i : Nat) {x : Str} {e : Expr} {we : Env → W D} (hN : X.N.Nodup) (h : DE X C M Wx .v e we) (hi : X.N[i]? = some x := by rfl) (hx : Loc X.env.scope x := by first | exact .inl rfl | exact .inr rfl) (hlt : i < M.length := by exact Nat.le_of_ble_eq_true rfl) (hs : swapsWith e (some (.Name x p2)) pos.line X.env = pure false := by rfl)
    (hf : X.fn x = true ∨ X.env.scope.names.lookup x = some .local := by first | exact .inl rfl | exact .inr rfl) : DS X C Ml rk Wx M (M.set i .v) (.Assign [.Name x p2] e pos) (asgW i we) := ds_set hN hi hx h hlt hs hf
theorem sO (i : Nat) {n : Nat} {x : Str} {e : Expr} {we : Env → W D} (hN : X.N.Nodup) (h : DE X C M Wx (.n n) e we) (hi : X.N[i]? = some x := by rfl) (hx : Loc X.env.scope x := by first | exact .inl rfl | exact .inr rfl) (hlt : i < M.length := by exact Nat.le_of_ble_eq_true rfl) (hs : swapsWith e (some (.Name x p2)) pos.line X.env = pure false := by rfl)
    (hf : X.fn x = true ∨ X.env.scope.names.lookup x = some .local := by first | exact .inl rfl | exact .inr rfl) : DS X C Ml rk Wx M (M.set i (.o n)) (.Assign [.Name x p2] e pos) (asgW i we) := ds_setO hN hi hx h hlt hs hf
theorem hu65 {k : Nat} {A : Around} (hr : Room k A) : A.units + 65 < cLine := by have := hr.un; omega
theorem hu64 {k : Nat} {A : Around} (hr : Room k A) : A.units + 64 < cLine := by have := hr.un; omega
theorem hu62 {k : Nat} {A : Around} (hr : Room k A) : A.units + 62 < cLine := by have := hr.un; omega
theorem hu1 {k : Nat} {A : Around} (hr : Room k A) : A.units + 1 < cLine := by have := hr.un; omega
def isW : D → D → W D := fun x y Q E => y = .non ∧ isNW x y Q E
def isnW : D → D → W D := fun x y Q E => y = .non ∧ notNW x y Q E
theorem ops_is {k1 k2 : Kd} : OpS G k1 k2 .v (fun x y H Q => y = .non ∧ Q (.bl (decide (x = .non))) H) isW := ops_isN
theorem ops_isn {k1 k2 : Kd} : OpS G k1 k2 .v (fun x y H Q => y = .non ∧ Q (.bl (!decide (x = .non))) H) isnW := ops_notN
theorem htN {i : Nat} : ∀ d ρ Q E E', tName i d ρ Q E → tName i d ρ Q E' := fun _ _ _ _ _ h => h
def TLen (n : Nat) (t : List D → Env → W Env) : Prop := ∀ ds ρ Q E, t ds ρ Q E → ds.length = n
theorem tl0 : TLen 0 tNil' := fun ds ρ Q E h => by cases ds with | nil => rfl | cons => cases h
/-- a target's wish of exceptions is nothing -/
def TEx {α : Type} (t : α → Env → W Env) : Prop := ∀ d ρ Q E E', t d ρ Q E → t d ρ Q E'
theorem tl1 {n i : Nat} {u : List D → Env → W Env} (h : TLen n u) : TLen (n + 1) (tCons' (tName i) u) := fun ds ρ Q E hh => by
  cases ds with
  | nil => cases hh
  | cons d ds => have := h ds _ _ _ hh; simp [this]
theorem te0 : TEx tNil' := fun _ _ _ _ _ h => h
theorem te1 {i : Nat} {u : List D → Env → W Env} (h : TEx u) : TEx (tCons' (tName i) u) := fun ds ρ Q E E' hh => by
  cases ds with
  | nil => cases hh
  | cons d ds => exact h ds _ Q E E' hh
theorem teT {t : List D → Env → W Env} (h : TEx t) : TEx (tTup' t) := fun d ρ Q E E' hh => by
  cases d <;> first | cases hh; done | exact h _ ρ Q E E' hh
theorem gT {is : List Nat} {es : List Expr} {k n : Nat} {t : List D → Env → W Env} (h : DGs X C M is es t) (hl : TLen n t) (hc : X.calm = true := by rfl) (hn : (assignEach es X.env).length = n := by rfl) (hst : (assignEach es X.env).findIdx? (·.1) = none := by rfl) : DG X C M is (.Tuple es k pos) (tTup' t) := dg_tup hc h (fun ds ρ Q E hh => by rw [hn]; exact hl ds ρ Q E hh) hst
theorem sFor {is : List Nat} {tgt iter : Expr} {body : List Stmt} {wi : Env → W (List D)} {tg : D → Env → W Env} {w : Env → W Fl} (hp : PassesOwn (model X.prog X.w) X.A X.env X.xe) (hi : DI X C M Wx .v tgt iter wi) (hg : DG X C M is tgt tg) (htg : TEx tg) (hb : DSs X C M rk Wx M M body w)
    (hc : X.calm = true := by rfl) (hs : ∀ x, foldedSetIterable iter X.env x = pure x := by intro _; rfl) : DS X C Ml rk Wx M M (.For tgt iter body [] pos) (forW wi tg w) := ds_for hp hc hi hg hb htg hs
/-- modes, said another way -/
theorem dsM {st : Stmt} {w : Env → W Fl} (M2 : List Md) (h : DS X C Ml rk Wx M M1 st w) (e : M1 = M2 := by rfl) : DS X C Ml rk Wx M M2 st w := e ▸ h
theorem dssM {st : List Stmt} {w : Env → W Fl} (M2 : List Md) (h : DSs X C Ml rk Wx M M1 st w) (e : M1 = M2 := by rfl) : DSs X C Ml rk Wx M M2 st w := e ▸ h
end
end DL

namespace DL
open PySem PySem.Spec PyProof.Rows L2

/-! ### the law's own def: its pool, then the rest -/
def poolD (d : D) : Prop := ∃ (s n : Int) (cells : List Int), d = .lst [.int s, .int n, .lst (cells.map .int)]
def spLaw (K : PySem.W.Frag) : Sp := fun vs H Q _ => ∃ (a : Addr) (ns : List Int), vs = [.ref a] ∧ SqL K H a (ns.map V.int) ∧ ns.length ≤ 63 ∧ ∀ H', Q (.bl true) H'
theorem ints_back {G : Gx} {F : Hp} : ∀ {cells : List Int} {vs : List V}, IsL G F (cells.map .int) vs → vs = cells.map V.int
  | [], _, h => h
  | c :: cs, _, h => by
    obtain ⟨v, r, rfl, h1, h2⟩ := h
    rw [ints_back h2, show v = .int c from h1]
    rfl
theorem law_ok {P : Program} {w : World} {K : PySem.W.Frag} {mg : Str → Option Value} {base : Heap} {x lname : Str} {st st1 : Stmt} {rest : List Stmt} {N : List Str} {k n : Nat} {wp : Env → W D} {wl : Env → W Fl} {f : Addr} {fd : FuncData} (Fd : FunD K lname lname (defArgs st) (defBody st) (defScope st) [] [] f fd) (S : FnScope N [x] (defScope st)) (hn : N.length = n + 2) (hbody : defBody st = st1 :: rest)
    (h1 : ∀ (f : Addr) (cdv : Value) (A : Around) (outer : List PySem.Env) (s : Shared) (H : Hp) (E : XK), Room k (A.deeper (envOfC lname (defScope st) s.heap.objs.size f cdv)) → ∀ C : Cf, DS (cxOf (L2.CX P w) P w K mg base N lname (defScope st) f cdv A outer s H E) C (List.replicate (n + 2) .v) .v (fun cls dd _ H => E cls dd H) (List.replicate (n + 2) .v) (List.replicate (n + 2) .v) st1 (asgW 1 wp))
    (h2 : ∀ (f : Addr) (cdv : Value) (A : Around) (outer : List PySem.Env) (s : Shared) (H : Hp) (E : XK), Room k (A.deeper (envOfC lname (defScope st) s.heap.objs.size f cdv)) → ∀ C : Cf, ∃ M2, DSs (cxOf (L2.CX P w) P w K mg base N lname (defScope st) f cdv A outer s H E) C (List.replicate (n + 2) .v) .v (fun cls dd _ H => E cls dd H) (List.replicate (n + 2) .v) M2 rest wl)
    (hp : ∀ ns : List Int, ns.length ≤ 63 → ∀ Q : D → Prop, (∀ d, poolD d → Q d) → wp (some (.scr ns) :: List.replicate (n + 1) none) Q noX)
    (hl : ∀ Q : Fl → Prop, Q (.ret (.bl true)) → wl (none :: some .pool :: List.replicate n none) Q noX) : FnOk P w K mg base (L2.CX P w) (k + 1) f fd [x] (spLaw K) := by
  have Fu := fun_of Fd
  refine Fu.okX S (fun vs H Q E h => ?_) fun cdv A outer s H vs Q E hr h => ?_
  · obtain ⟨a, ns, rfl, _⟩ := h
    rfl
  · obtain ⟨a, ns, rfl, hs, hlen, hq⟩ := h
    rw [hbody]
    have hd1 := h1 f cdv A outer s H E hr ⟨[], H, H⟩
    obtain ⟨t1, p1, s1⟩ := hd1.ex
    -- the rest, read canonically
    have p2 : PSs (cxOf (L2.CX P w) P w K mg base N lname (defScope st) f cdv A outer s H E) rest (fun D_ σ H1 => ∃ C F ρ, SR (gx (cxOf (L2.CX P w) P w K mg base N lname (defScope st) f cdv A outer s H E) C) C (List.replicate (n + 2) .v) F H1 σ ρ ∧ wl ρ (fun f => f = .ret (.bl true)) noX ∧ ∀ H2, D_.rt (.bl true) H2) := by
      refine ⟨fun pins s' σ H1 D_ I hw => ?_⟩
      obtain ⟨C, F, ρ, r, hw, hD⟩ := hw
      obtain ⟨M2, hd2⟩ := h2 f cdv A outer s H E hr C
      obtain ⟨t2, p2, s2⟩ := hd2.ex
      refine p2.run pins s' σ H1 D_ I (s2 F H1 σ ρ r _ noX D_ hw (fun _ _ _ _ _ _ q => by cases q) (fun _ _ _ _ _ _ q => by cases q) (fun _ _ _ _ _ _ q => by cases q) (fun d v F' H' _ _ k q => ?_) fun _ _ _ _ _ _ _ _ _ q => q.elim)
      cases q
      rw [show v = .bl true from k]
      exact hD H'
    refine ⟨_, pss_cons p1 p2, ?_⟩
    have st0 : SR ⟨K, mg, []⟩ ⟨[], H, H⟩ (List.replicate (n + 2) .v) H H (L2.start N [V.ref a]) (some (.scr ns) :: List.replicate (n + 1) none) := by
      have := sr_start (G := ⟨K, mg, []⟩) (pl := []) (F := H) (H := H) (N := N) (n := n + 2) (ar := [.v]) (ds := [.scr ns]) (vs := [V.ref a]) rfl (by rw [hid_nil]; exact Ex.refl H) trivial (.cons (m := .v) (show Is ⟨K, mg, []⟩ H (.scr ns) (.ref a) from ⟨a, rfl, hs⟩) .nil) hn (by simp)
      simpa [List.replicate_succ] using this
    refine s1 H H _ _ st0 (fun f => ∃ d, poolD d ∧ f = .next ((some (.scr ns) :: List.replicate (n + 1) none).set 1 (some d))) noX _ ?_ (fun σ' ρ' F1 H1 e1 r1 q => ?_) (fun _ _ _ _ _ _ q => by obtain ⟨_, _, q⟩ := q; cases q) (fun _ _ _ _ _ _ q => by obtain ⟨_, _, q⟩ := q; cases q) (fun _ _ _ _ _ _ _ q => by obtain ⟨_, _, q⟩ := q; cases q) fun _ _ _ _ _ _ _ _ _ q => q.elim
    · exact hp ns hlen _ fun d hd => ⟨d, hd, rfl⟩
    · obtain ⟨d, ⟨si, ni, cells, rfl⟩, q⟩ := q
      injection q with q
      subst q
      obtain ⟨m, v, fp, e2, e3, sl, _⟩ := r1.get (i := 1) (d := .lst [.int si, .int ni, .lst (cells.map .int)]) (by simp)
      have em : m = .v := by
        have : (List.replicate (n + 2) Md.v)[1]? = some .v := by simp
        rw [this] at e2
        exact (Option.some.inj e2).symm
      subst em
      obtain ⟨⟨p, vs, rfl, hP, i1⟩, _⟩ := sl
      obtain ⟨w1, r2, rfl, rfl, w2, r3, rfl, rfl, w3, r4, rfl, ⟨c, us, rfl, hC, i2⟩, rfl⟩ := i1
      have hH1 := fun a o e => (hid_some (r1.base.fh a o e)).2
      have ne : p ≠ c := fun z => by
        subst z
        rw [hP] at hC
        injection hC with hC
        injection hC with hC
        rw [ints_back i2] at hC
        cases cells with
        | nil => simp at hC
        | cons x cs =>
          cases cs with
          | nil => simp at hC
          | cons y cs =>
            cases cs with
            | nil => simp at hC
            | cons z cs => simp at hC
      rw [ints_back i2] at hC
      have po : PoolOk [p, c] H1 := ⟨ne, si, ni, cells, hH1 _ _ hP, hH1 _ _ hC⟩
      have lv : σ'.length = n + 2 := by have := r1.ls; simpa using this
      refine ⟨⟨[p, c], fun _ => none, H1⟩, fun _ => none, none :: some .pool :: List.replicate n none, ⟨⟨hid_ex, Ex.refl _, (fun _ _ e => by cases e), (fun _ _ e => .inl e), po⟩, by simp [lv], by simp, fun _ => [], ⟨fun _ => List.nodup_nil, by simp, by simp⟩, fun i d e => ?_⟩, hl _ rfl, hq⟩
      match i, e with
      | 0, e => simp at e
      | 1, e =>
        have e : some D.pool = some d := by simpa using e
        cases e
        exact ⟨.v, .ref p, by simp, e3, ⟨p, rfl, rfl⟩, rfl⟩
      | i + 2, e =>
        have := List.mem_of_getElem? (show (List.replicate n (none : Option D))[i]? = some (some d) by simpa using e)
        simp at this
end DL

namespace DL
open PySem PySem.Spec PyProof.Rows L2

/-! ### meanings unfold -/
section
variable {Q : D → Prop} {QL : List D → Prop} {QB : Bool → Prop} {QF : Fl → Prop} {QE : Env → Prop} {QO : Option Int → Prop} {E : Xn → Prop} {ρ : Env} {i : Nat}
@[simp] theorem varW_eq : varW i ρ Q E = (match ρ[i]? with | some (some d) => Q d | _ => False) := rfl
@[simp] theorem cW_eq {d : D} : cW d ρ Q E = Q d := rfl
@[simp] theorem unW_eq {f : D → W D} {wa : Env → W D} : unW f wa ρ Q E = wa ρ (fun x => f x Q E) E := rfl
@[simp] theorem binW_eq {f : D → D → W D} {wa wb : Env → W D} : binW f wa wb ρ Q E = wa ρ (fun x => wb ρ (fun y => f x y Q E) E) E := rfl
@[simp] theorem nilW_eq : nilW ρ QL E = QL [] := rfl
@[simp] theorem consW_eq {wa : Env → W D} {wr : Env → W (List D)} : consW wa wr ρ QL E = wa ρ (fun x => wr ρ (fun xs => QL (x :: xs)) E) E := rfl
@[simp] theorem appW_eq {f : List D → W D} {ws : Env → W (List D)} : appW f ws ρ Q E = ws ρ (fun xs => f xs Q E) E := rfl
@[simp] theorem blW_eq {wa : Env → W D} : blW wa ρ QB E = wa ρ (fun x => match x with | .bl b => QB b | _ => False) E := rfl
@[simp] theorem trW_eq {wa : Env → W D} : trW wa ρ QB E = wa ρ (fun x => match x with | .bl b => QB b | .int i => QB (i != 0) | .non => QB false | _ => False) E := rfl
@[simp] theorem notT_eq {wa : Env → W Bool} : notT wa ρ QB E = wa ρ (fun b => QB (!b)) E := rfl
@[simp] theorem andT_eq {wa wb : Env → W Bool} : andT wa wb ρ QB E = wa ρ (fun b => if b = true then wb ρ QB E else QB false) E := rfl
@[simp] theorem orT_eq {wa wb : Env → W Bool} : orT wa wb ρ QB E = wa ρ (fun b => if b = true then QB true else wb ρ QB E) E := rfl
@[simp] theorem andV_eq {wa wb : Env → W D} : andV wa wb ρ Q E = wa ρ (fun x => match x with | .bl b => if b = true then wb ρ Q E else Q (.bl false) | _ => False) E := rfl
@[simp] theorem orV_eq {wa wb : Env → W D} : orV wa wb ρ Q E = wa ρ (fun x => match x with | .bl b => if b = true then Q (.bl true) else wb ρ Q E | _ => False) E := rfl
@[simp] theorem notV_eq {wa : Env → W D} : notV wa ρ Q E = wa ρ (fun x => match x with | .bl b => Q (.bl (!b)) | _ => False) E := rfl
@[simp] theorem ifW_eq {wt : Env → W Bool} {wa wb : Env → W D} : ifW wt wa wb ρ Q E = wt ρ (fun b => if b = true then wa ρ Q E else wb ρ Q E) E := rfl
@[simp] theorem upW_eq {we : Env → W D} : upW we ρ Q E = we ρ (fun d => im d = true ∧ Q d) E := rfl
@[simp] theorem tupW_eq {ws : Env → W (List D)} : tupW ws ρ Q E = ws ρ (fun ds => Q (.tup ds)) E := rfl
@[simp] theorem lstW_eq {ws : Env → W (List D)} : lstW ws ρ Q E = ws ρ (fun ds => Q (.lst ds)) E := rfl
@[simp] theorem nextW_eq : nextW ρ QF E = QF (.next ρ) := rfl
@[simp] theorem brkW_eq : brkW ρ QF E = QF (.brk ρ) := rfl
@[simp] theorem contW_eq : contW ρ QF E = QF (.cont ρ) := rfl
@[simp] theorem seqW_eq {s t : Env → W Fl} : seqW s t ρ QF E = s ρ (fun f => match f with | .next ρ' => t ρ' QF E | .brk ρ' => QF (.brk ρ') | .cont ρ' => QF (.cont ρ') | .ret d => QF (.ret d)) E := rfl
@[simp] theorem asgW_eq {we : Env → W D} : asgW i we ρ QF E = we ρ (fun d => QF (.next (ρ.set i (some d)))) E := rfl
@[simp] theorem exprW_eq {we : Env → W D} : exprW we ρ QF E = we ρ (fun _ => QF (.next ρ)) E := rfl
@[simp] theorem retW_eq {we : Env → W D} : retW we ρ QF E = we ρ (fun d => QF (.ret d)) E := rfl
@[simp] theorem retNW_eq : retNW ρ QF E = QF (.ret .non) := rfl
@[simp] theorem iteW_eq {wt : Env → W Bool} {s t : Env → W Fl} : iteW wt s t ρ QF E = wt ρ (fun b => if b = true then s ρ QF E else t ρ QF E) E := rfl
@[simp] theorem noneW_eq : noneW ρ QF E = False := rfl
@[simp] theorem forW_eq {wi : Env → W (List D)} {tg : D → Env → W Env} {b : Env → W Fl} : forW wi tg b ρ QF E = wi ρ (fun ds => forL tg b ds ρ QF E) E := rfl
@[simp] theorem compW_eq {vs : List Nat} {wi : Env → W (List D)} {tg : D → Env → W Env} {wt : Env → W Bool} {we : Env → W D} : compW vs wi tg wt we ρ Q E = wi ρ (fun ds => compL tg wt we (wipeD ρ vs) ds (fun r => Q (.lst r)) noX) E := rfl
@[simp] theorem yesW_eq : yesW ρ QB E = QB true := rfl
@[simp] theorem tName_eq {d : D} : tName i d ρ QE E = QE (ρ.set i (some d)) := rfl
@[simp] theorem tTup_eq {t : List D → Env → W Env} {ds : List D} : tTup' t (.tup ds) ρ QE E = t ds ρ QE E := rfl
@[simp] theorem tCons_eq {t : D → Env → W Env} {u : List D → Env → W Env} {d : D} {ds : List D} : tCons' t u (d :: ds) ρ QE E = t d ρ (fun ρ1 => u ds ρ1 QE E) E := rfl
@[simp] theorem tNil_eq : tNil' [] ρ QE E = QE ρ := rfl
@[simp] theorem asgTW_eq {we : Env → W D} {t : D → Env → W Env} : asgTW we t ρ QF E = we ρ (fun d => t d ρ (fun ρ' => QF (.next ρ')) E) E := rfl
@[simp] theorem parW_eq {j : Nat} {w1 w2 : Env → W D} : parW i j w1 w2 ρ QF E = w1 ρ (fun d1 => w2 ρ (fun d2 => QF (.next ((ρ.set i (some d1)).set j (some d2)))) E) E := rfl
@[simp] theorem seqI_eq {we : Env → W D} : seqI we ρ QL E = we ρ (fun x => match seqB x with | some xs => QL xs | none => False) E := rfl
@[simp] theorem seqIr_eq {we : Env → W D} : seqIr we ρ QL E = we ρ (fun x => match seqB x with | some xs => imL xs = true ∧ QL xs | none => False) E := rfl
@[simp] theorem enumI_eq {we : Env → W D} : enumI we ρ QL E = we ρ (fun x => match seqB x with | some xs => QL (enumD xs) | none => False) E := rfl
@[simp] theorem rangeI1_eq {we : Env → W D} : rangeI1 we ρ QL E = we ρ (fun x => match x with | .int j => (-(2 ^ 62) ≤ j ∧ j ≤ 16777216) ∧ QL (rngD 0 j.toNat) | _ => False) E := rfl
@[simp] theorem rangeI2_eq {wa wb : Env → W D} : rangeI2 wa wb ρ QL E = wa ρ (fun x => wb ρ (fun y => match x, y with | .int i, .int j => (-(2 ^ 62) ≤ i ∧ i < 2 ^ 62 ∧ -(2 ^ 62) ≤ j ∧ j < 2 ^ 62 ∧ j - i ≤ 16777216) ∧ QL (rngD i (j - i).toNat) | _, _ => False) E) E := rfl
@[simp] theorem chainW_eq {f f' : D → D → W D} {wa wb wc : Env → W D} : chainW f f' wa wb wc ρ Q E = wa ρ (fun x => wb ρ (fun y => f x y (fun z => match z with | .bl k => if k = true then wc ρ (fun w => f' y w Q E) E else Q (.bl false) | _ => False) E) E) E := rfl
@[simp] theorem sliceW_eq {we : Env → W D} {wl wh : Env → W (Option Int)} : sliceW we wl wh ρ Q E = we ρ (fun x => wl ρ (fun lo => wh ρ (fun hi => match sliceB lo hi x with | some d => Q d | none => False) E) E) E := rfl
@[simp] theorem noPartW_eq : noPartW ρ QO E = QO none := rfl
@[simp] theorem partW_eq {we : Env → W D} : partW we ρ QO E = we ρ (fun d => match d with | .int i => QO (some i) | _ => False) E := rfl
/-! operations -/
@[simp] theorem addW_int {a b : Int} : addW (.int a) (.int b) Q E = Q (.int (a + b)) := rfl
@[simp] theorem addW_tup {a b : List D} : addW (.tup a) (.tup b) Q E = (a.length + b.length ≤ sizeLine ∧ Q (.tup (a ++ b))) := rfl
@[simp] theorem addW_lst {a b : List D} : addW (.lst a) (.lst b) Q E = (a.length + b.length ≤ sizeLine ∧ Q (.lst (a ++ b))) := rfl
@[simp] theorem subW_int {a b : Int} : subW (.int a) (.int b) Q E = Q (.int (a - b)) := rfl
@[simp] theorem mulW_int {a b : Int} : mulW (.int a) (.int b) Q E = (CMul a b ∧ Q (.int (a * b))) := rfl
@[simp] theorem divW_int {a b : Int} : divW (.int a) (.int b) Q E = (CDiv a b ∧ Q (.int (a / b))) := rfl
@[simp] theorem modW_int {a b : Int} : modW (.int a) (.int b) Q E = (0 < b ∧ Q (.int (a % b))) := rfl
@[simp] theorem ltW_int {a b : Int} : ltW (.int a) (.int b) Q E = Q (.bl (decide (a < b))) := rfl
@[simp] theorem leW_int {a b : Int} : leW (.int a) (.int b) Q E = Q (.bl (decide (a ≤ b))) := rfl
@[simp] theorem gtW_int {a b : Int} : gtW (.int a) (.int b) Q E = Q (.bl (decide (b < a))) := rfl
@[simp] theorem geW_int {a b : Int} : geW (.int a) (.int b) Q E = Q (.bl (decide (b ≤ a))) := rfl
@[simp] theorem isiW_eq {T : String} {x : D} : isiW T x Q E = (match tyN x with | some a => Q (.bl (subT a T)) | none => False) := rfl
@[simp] theorem lenW_eq {x : D} : lenW x Q E = (match lenB x with | some i => Q (.int i) | none => False) := rfl
@[simp] theorem ixW_eq {x y : D} : ixW x y Q E = (match ixB x y with | some d => Q d | none => False) := rfl
@[simp] theorem ixrW_eq {x y : D} : ixrW x y Q E = (match ixB x y with | some d => im d = true ∧ Q d | none => False) := rfl
@[simp] theorem fldW_eq {cs : List Str} {f : Str} {x : D} : fldW cs f x Q E = (match fldB cs f x with | some d => Q d | none => False) := rfl
@[simp] theorem eqW_eq {x y : D} : eqW x y Q E = (plain 50 x = true ∧ plain 50 y = true ∧ Q (.bl (eqD x y))) := rfl
@[simp] theorem neW_eq {x y : D} : neW x y Q E = (plain 50 x = true ∧ plain 50 y = true ∧ Q (.bl (!eqD x y))) := rfl
@[simp] theorem inW_eq {x y : D} : inW x y Q E = (match inB x y with | some b => Q (.bl b) | none => False) := rfl
@[simp] theorem ninW_eq {x y : D} : ninW x y Q E = (match inB x y with | some b => Q (.bl (!b)) | none => False) := rfl
@[simp] theorem intW_int {a : Int} : intW (.int a) Q E = Q (.int a) := rfl
@[simp] theorem intW_bl {a : Bool} : intW (.bl a) Q E = Q (.int (if a then 1 else 0)) := rfl
@[simp] theorem absW_int {a : Int} : absW (.int a) Q E = Q (.int (if a < 0 then -a else a)) := rfl
@[simp] theorem negW_int {a : Int} : negW (.int a) Q E = Q (.int (-a)) := rfl
@[simp] theorem tupOfW_lst {xs : List D} : tupOfW .v (.lst xs) Q E = (upL .v xs ∧ Q (.tup xs)) := rfl
@[simp] theorem lstOfW_lst {k : Kd} {xs : List D} : lstOfW k (.lst xs) Q E = (upL k xs ∧ Q (.lst xs)) := rfl
@[simp] theorem lstOfW_tup {k : Kd} {xs : List D} : lstOfW k (.tup xs) Q E = (upOk k (.tup xs) ∧ Q (.lst xs)) := rfl
@[simp] theorem lstOfW_dct {k : Kd} {ks : List Key} {xs : List D} : lstOfW k (.dct ks xs) Q E = Q (.lst (ks.map kD)) := rfl
@[simp] theorem sortW_lst {k : Kd} {xs : List D} : sortW k (.lst xs) Q E = (upL k xs ∧ sortOk xs = true ∧ Q (.lst (sortD xs))) := rfl
@[simp] theorem sortW_dct {k : Kd} {ks : List Key} {xs : List D} : sortW k (.dct ks xs) Q E = (sortOk (ks.map kD) = true ∧ Q (.lst (sortD (ks.map kD)))) := rfl
@[simp] theorem upL_v {xs : List D} : upL .v xs = True := eq_true (.inl rfl)
@[simp] theorem upOk_v {x : D} : upOk .v x = True := eq_true (.inl rfl)
end
/-! ### loops and comprehensions, computed -/
/-- one answer -/
def Pure {α : Type} (w : W α) (a : α) : Prop := ∀ Q E, Q a → w Q E
theorem compL_pure {tg : D → Env → W Env} {wt : Env → W Bool} {we : Env → W D} {ρ0 : Env} (g : D → Option D) : ∀ (xs : List D), (∀ x ∈ xs, ∃ ρ1, Pure (tg x ρ0) ρ1 ∧ (match g x with | none => Pure (wt ρ1) false | some d => Pure (wt ρ1) true ∧ Pure (we ρ1) d)) → Pure (compL tg wt we ρ0 xs) (xs.filterMap g)
  | [], _ => fun Q E q => q
  | x :: xs, h => fun Q E q => by
    obtain ⟨ρ1, h1, h2⟩ := h x (by simp)
    refine h1 _ _ ?_
    cases hg : g x with
    | none =>
      rw [hg] at h2
      refine h2 _ _ ?_
      rw [if_neg Bool.false_ne_true]
      refine compL_pure g xs (fun y hy => h y (by simp [hy])) _ _ ?_
      simpa [List.filterMap_cons, hg] using q
    | some d =>
      rw [hg] at h2
      refine h2.1 _ _ ?_
      rw [if_pos rfl]
      refine h2.2 _ _ ?_
      refine compL_pure g xs (fun y hy => h y (by simp [hy])) _ _ ?_
      simpa [List.filterMap_cons, hg] using q
/-- .. without a test -/
theorem compL_map {tg : D → Env → W Env} {we : Env → W D} {ρ0 : Env} (g : D → D) (xs : List D) (h : ∀ x ∈ xs, ∃ ρ1, Pure (tg x ρ0) ρ1 ∧ Pure (we ρ1) (g x)) : Pure (compL tg yesW we ρ0 xs) (xs.map g) := by
  have := compL_pure (tg := tg) (wt := yesW) (we := we) (ρ0 := ρ0) (fun x => some (g x)) xs fun x hx => by
    obtain ⟨ρ1, h1, h2⟩ := h x hx
    exact ⟨ρ1, h1, fun Q E q => q, h2⟩
  simpa [List.filterMap_eq_map] using this
/-- a for, by what it knows ahead of each turn: R i ρ says what is left gives the end -/
theorem forL_ind {tg : D → Env → W Env} {body : Env → W Fl} {Q : Fl → Prop} {E : Xn → Prop} (I : Nat → Env → Prop) (xs : List D) (hend : ∀ ρ, I xs.length ρ → Q (.next ρ))
    (hs : ∀ (i : Nat) (x : D) (ρ : Env) (R : Env → Prop), xs[i]? = some x → I i ρ → (∀ ρ', I (i + 1) ρ' → R ρ') → tg x ρ (fun ρ1 => body ρ1 (fun f => match f with | .next ρ2 => R ρ2 | .cont ρ2 => R ρ2 | .brk ρ2 => Q (.next ρ2) | .ret d => Q (.ret d)) E) E) : ∀ ρ, I 0 ρ → forL tg body xs ρ Q E := by
  have go : ∀ (n i : Nat) (ρ : Env), xs.length - i = n → i ≤ xs.length → I i ρ → forL tg body (xs.drop i) ρ Q E := by
    intro n
    induction n with
    | zero =>
      intro i ρ h1 h2 hi
      have : i = xs.length := by omega
      subst this
      rw [List.drop_length]
      exact hend ρ hi
    | succ n ih =>
      intro i ρ h1 h2 hi
      have hlt : i < xs.length := by omega
      rw [List.drop_eq_getElem_cons hlt]
      exact hs i xs[i] ρ (fun ρ' => forL tg body (xs.drop (i + 1)) ρ' Q E) (List.getElem?_eq_getElem hlt) hi fun ρ' hi' => ih (i + 1) ρ' (by omega) hlt hi'
  intro ρ hi
  have := go _ 0 ρ rfl (Nat.zero_le _) hi
  rwa [List.drop_zero] at this
/-! ### equality of data -/
theorem eqv_self : ∀ x : D, plain 50 x = true → eqD x x = true := by
  intro x h
  exact SeqAt.eqv_refl _ (plain_lay 50 x h).1
end DL

set_option maxHeartbeats 1000000
namespace DL
open PySem PySem.Spec PyProof.Rows L2
/-! ### equality of data, by the plain thing that stands there -/
def EqF {α : Type} [DecidableEq α] (f : α → D) : Prop := ∀ a b, eqD (f a) (f b) = decide (a = b)
def PlF {α : Type} (k : Nat) (f : α → D) : Prop := ∀ a, plain k (f a) = true
section
variable {α : Type} [DecidableEq α] {f : α → D}
theorem eqvAll_f (h : EqF f) : ∀ xs ys : List α, PyData.eqvAll (pyL (xs.map f)) (pyL (ys.map f)) = decide (xs = ys)
  | [], [] => by simp [pyL, PyData.eqvAll]
  | [], _ :: _ => by simp [pyL, PyData.eqvAll]
  | _ :: _, [] => by simp [pyL, PyData.eqvAll]
  | x :: xs, y :: ys => by
    have e := h x y
    unfold eqD at e
    rw [List.map_cons, List.map_cons, pyL, pyL, PyData.eqvAll, e, eqvAll_f h xs ys, ← Bool.decide_and]
    exact decide_eq_decide.mpr (by rw [List.cons.injEq])
theorem eqF_tup (h : EqF f) : EqF fun xs : List α => D.tup (xs.map f) := fun xs ys => by
  unfold eqD; rw [py, py, PyData.eqv]; exact eqvAll_f h xs ys
theorem eqF_lst (h : EqF f) : EqF fun xs : List α => D.lst (xs.map f) := fun xs ys => by
  unfold eqD; rw [py, py, PyData.eqv]; exact eqvAll_f h xs ys
theorem plF_tup {k : Nat} (h : PlF k f) : PlF (k + 1) fun xs : List α => D.tup (xs.map f) := fun xs => by
  show (xs.map f).all (plain k) = true
  rw [List.all_map, List.all_eq_true]
  exact fun x _ => h x
theorem plF_lst {k : Nat} (h : PlF k f) : PlF (k + 1) fun xs : List α => D.lst (xs.map f) := fun xs => by
  show (xs.map f).all (plain k) = true
  rw [List.all_map, List.all_eq_true]
  exact fun x _ => h x
end
theorem eqF_int : EqF D.int := fun a b => by
  unfold eqD; rw [py, py, PyData.eqv]
  exact Bool.eq_iff_iff.mpr (by simp)
theorem eqF_nat : EqF fun n : Nat => D.int (n : Int) := fun a b => by
  rw [eqF_int]; exact decide_eq_decide.mpr (by omega)
theorem eqF_bl : EqF D.bl := fun a b => by
  unfold eqD; rw [py, py, PyData.eqv]
  exact Bool.eq_iff_iff.mpr (by simp)
theorem eqF_str : EqF D.str := fun a b => by
  unfold eqD; rw [py, py, PyData.eqv]
  exact Bool.eq_iff_iff.mpr (by simp)
theorem plF_int (k : Nat) : PlF k D.int := fun a => by cases k <;> rfl
theorem plF_nat (k : Nat) : PlF k fun n : Nat => D.int (n : Int) := fun a => by cases k <;> rfl
theorem plF_bl (k : Nat) : PlF k D.bl := fun a => by cases k <;> rfl
theorem eqD_tup2 (a b c d : D) : eqD (.tup [a, b]) (.tup [c, d]) = (eqD a c && eqD b d) := by
  unfold eqD; simp [py, pyL, PyData.eqv, PyData.eqvAll]
theorem plain_tup2 {n : Nat} (a b : D) : plain (n + 1) (.tup [a, b]) = (plain n a && plain n b) := by
  show [a, b].all (plain n) = _
  simp
theorem any_eqF {α : Type} [DecidableEq α] {f : α → D} (h : EqF f) (xs : List α) (x : α) : ((xs.map f).any fun z => eqD z (f x)) = decide (x ∈ xs) := by
  rw [List.any_map, Bool.eq_iff_iff, List.any_eq_true, decide_eq_true_eq]
  constructor
  · rintro ⟨y, hy, e⟩
    have e' : eqD (f y) (f x) = true := e
    rw [h, decide_eq_true_eq] at e'
    exact e' ▸ hy
  · intro hx
    exact ⟨x, hx, by show eqD (f x) (f x) = true; rw [h]; simp⟩
theorem inB_tup {α : Type} [DecidableEq α] {f : α → D} (h : EqF f) (hp : PlF 49 f) (hp' : PlF 50 f) (xs : List α) (x : α) : inB (f x) (.tup (xs.map f)) = some (decide (x ∈ xs)) := by
  unfold inB
  simp only
  rw [if_pos ⟨hp' x, by rw [List.all_map, List.all_eq_true]; exact fun y _ => hp y⟩, any_eqF h]
theorem inB_lst {α : Type} [DecidableEq α] {f : α → D} (h : EqF f) (hp : PlF 49 f) (hp' : PlF 50 f) (xs : List α) (x : α) : inB (f x) (.lst (xs.map f)) = some (decide (x ∈ xs)) := by
  unfold inB
  simp only
  rw [if_pos ⟨hp' x, by rw [List.all_map, List.all_eq_true]; exact fun y _ => hp y⟩, any_eqF h]
/-! ### sorted, of numbers -/
theorem leD_int (a b : Int) : leD (.int a) (.int b) = decide (a ≤ b) := by
  have : PySem.W.dataLt (.int b) (.int a) = decide (b < a) := PySem.W.dataLt_int b a
  unfold leD
  rw [py, py, this, ← decide_not]
  exact decide_eq_decide.mpr (by omega)
theorem eq_of_rising : ∀ {a b : List Nat}, a.Pairwise (· < ·) → b.Pairwise (· < ·) → (∀ x, x ∈ a ↔ x ∈ b) → a = b
  | [], [], _, _, _ => rfl
  | [], y :: b, _, _, h => absurd ((h y).mpr (by simp)) (by simp)
  | x :: a, [], _, _, h => absurd ((h x).mp (by simp)) (by simp)
  | x :: a, y :: b, ha, hb, h => by
    obtain ⟨a1, a2⟩ := List.pairwise_cons.mp ha
    obtain ⟨b1, b2⟩ := List.pairwise_cons.mp hb
    have e : x = y := by
      rcases List.mem_cons.mp ((h x).mp (by simp)) with e | e
      · exact e
      · rcases List.mem_cons.mp ((h y).mpr (by simp)) with e' | e'
        · exact e'.symm
        · have := b1 x e; have := a1 y e'; omega
    subst e
    rw [eq_of_rising a2 b2 fun z => ?_]
    constructor
    · intro hz
      rcases List.mem_cons.mp ((h z).mp (by simp [hz])) with e | e
      · have := a1 z hz; omega
      · exact e
    · intro hz
      rcases List.mem_cons.mp ((h z).mpr (by simp [hz])) with e | e
      · have := b1 z hz; omega
      · exact e
theorem sortD_nats {L R : List Nat} (nd : L.Nodup) (hm : ∀ x, x ∈ L ↔ x ∈ R) (hR : R.Pairwise (· < ·)) : sortD (L.map fun n : Nat => D.int (n : Int)) = R.map fun n : Nat => D.int (n : Int) := by
  have e : sortD (L.map fun n : Nat => D.int (n : Int)) = (L.mergeSort fun a b => decide (a ≤ b)).map fun n : Nat => D.int (n : Int) :=
    (List.map_mergeSort (f := fun n : Nat => D.int (n : Int)) (r := fun a b => decide (a ≤ b)) (s := leD) fun a _ b _ => by
      rw [leD_int]; exact decide_eq_decide.mpr (by omega)).symm
  rw [e]
  congr 1
  have pm := List.mergeSort_perm L fun a b => decide (a ≤ b)
  refine eq_of_rising ?_ hR fun x => (pm.mem_iff).trans (hm x)
  have p1 : (L.mergeSort fun a b => decide (a ≤ b)).Pairwise fun a b => decide (a ≤ b) = true := List.pairwise_mergeSort (fun a b c h1 h2 => by simp at *; omega) (fun a b => by simp; omega) L
  have p2 : (L.mergeSort fun a b => decide (a ≤ b)).Pairwise (· ≠ ·) := pm.nodup_iff.mpr nd
  exact (p1.and p2).imp fun ⟨h1, h2⟩ => by simp at h1; omega
theorem sortOk_nats (L : List Nat) : sortOk (L.map fun n : Nat => D.int (n : Int)) = true := by
  unfold sortOk
  simp only [Bool.and_eq_true, Bool.or_eq_true, List.all_eq_true]
  refine ⟨⟨fun x hx => ?_, fun x hx y hy => ?_⟩, .inr fun x hx => ?_⟩
  · obtain ⟨h, _, rfl⟩ := List.mem_map.mp hx; rfl
  · obtain ⟨h, _, rfl⟩ := List.mem_map.mp hx
    obtain ⟨h', _, rfl⟩ := List.mem_map.mp hy
    rfl
  · obtain ⟨h, _, rfl⟩ := List.mem_map.mp hx; rfl
/-! ### over plain things -/
theorem compL_mapF {α : Type} {tg : D → Env → W Env} {we : Env → W D} {ρ0 : Env} (f g : α → D) (xs : List α) (h : ∀ x ∈ xs, ∃ ρ1, Pure (tg (f x) ρ0) ρ1 ∧ Pure (we ρ1) (g x)) : Pure (compL tg yesW we ρ0 (xs.map f)) (xs.map g) := by
  induction xs with
  | nil => exact fun Q E q => q
  | cons x xs ih =>
    intro Q E q
    obtain ⟨ρ1, h1, h2⟩ := h x (by simp)
    refine h1 _ _ ?_
    simp
    refine h2 _ _ ?_
    exact ih (fun y hy => h y (by simp [hy])) _ _ q
theorem compL_filtF {α : Type} {tg : D → Env → W Env} {wt : Env → W Bool} {we : Env → W D} {ρ0 : Env} (f g : α → D) (p : α → Bool) (xs : List α) (h : ∀ x ∈ xs, ∃ ρ1, Pure (tg (f x) ρ0) ρ1 ∧ Pure (wt ρ1) (p x) ∧ (p x = true → Pure (we ρ1) (g x))) : Pure (compL tg wt we ρ0 (xs.map f)) ((xs.filter p).map g) := by
  induction xs with
  | nil => exact fun Q E q => q
  | cons x xs ih =>
    intro Q E q
    obtain ⟨ρ1, h1, h2, h3⟩ := h x (by simp)
    refine h1 _ _ ?_
    refine h2 _ _ ?_
    have ih := ih (fun y hy => h y (by simp [hy]))
    cases hp : p x with
    | true =>
      rw [if_pos rfl]
      refine h3 hp _ _ ?_
      refine ih _ _ ?_
      simpa [hp] using q
    | false =>
      rw [if_neg (by simp)]
      refine ih _ _ ?_
      simpa [hp] using q
/-- .. any answers of a kind -/
def Some' {α : Type} (w : W α) (P : α → Prop) : Prop := ∀ Q E, (∀ a, P a → Q a) → w Q E
theorem compL_some {α : Type} {tg : D → Env → W Env} {we : Env → W D} {ρ0 : Env} (f : α → D) (P : D → Prop) (xs : List α) (h : ∀ x ∈ xs, ∃ ρ1, Pure (tg (f x) ρ0) ρ1 ∧ Some' (we ρ1) P) : Some' (compL tg yesW we ρ0 (xs.map f)) (fun ds => ds.length = xs.length ∧ ∀ d ∈ ds, P d) := by
  induction xs with
  | nil => exact fun Q E q => q _ ⟨rfl, by simp⟩
  | cons x xs ih =>
    intro Q E q
    obtain ⟨ρ1, h1, h2⟩ := h x (by simp)
    refine h1 _ _ ?_
    simp
    refine h2 _ _ fun a ha => ?_
    refine ih (fun y hy => h y (by simp [hy])) _ _ fun ds ⟨e, hd⟩ => q _ ⟨by simp [e], fun d hm => ?_⟩
    rcases List.mem_cons.mp hm with rfl | hm
    · exact ha
    · exact hd d hm
theorem forL_indF {α : Type} {tg : D → Env → W Env} {body : Env → W Fl} {Q : Fl → Prop} {E : Xn → Prop} (f : α → D) (I : Nat → Env → Prop) (xs : List α) (hend : ∀ ρ, I xs.length ρ → Q (.next ρ))
    (hs : ∀ (i : Nat) (a : α) (ρ : Env) (R : Env → Prop), xs[i]? = some a → I i ρ → (∀ ρ', I (i + 1) ρ' → R ρ') → tg (f a) ρ (fun ρ1 => body ρ1 (fun f => match f with | .next ρ2 => R ρ2 | .cont ρ2 => R ρ2 | .brk ρ2 => Q (.next ρ2) | .ret d => Q (.ret d)) E) E) (ρ : Env) (h0 : I 0 ρ) : forL tg body (xs.map f) ρ Q E := by
  refine forL_ind I (xs.map f) (by rw [List.length_map]; exact hend) (fun i x ρ R hx hi hR => ?_) ρ h0
  rw [List.getElem?_map, Option.map_eq_some_iff] at hx
  obtain ⟨a, ha, rfl⟩ := hx
  exact hs i a ρ R ha hi hR
theorem rng0 (n : Nat) : rngD 0 n = (List.range n).map fun i : Nat => D.int (i : Int) := by
  unfold rngD
  apply List.map_congr_left
  intro a _
  simp
theorem rngN (lo n : Nat) : rngD (lo : Int) n = (List.range' lo n).map fun i : Nat => D.int (i : Int) := by
  rw [List.range'_eq_map_range, List.map_map]
  unfold rngD
  apply List.map_congr_left
  intro a _
  simp
theorem forL_rng {tg : D → Env → W Env} {body : Env → W Fl} {Q : Fl → Prop} {E : Xn → Prop} (I : Nat → Env → Prop) (n : Nat) (hend : ∀ ρ, I n ρ → Q (.next ρ))
    (hs : ∀ (i : Nat) (ρ : Env) (R : Env → Prop), i < n → I i ρ → (∀ ρ', I (i + 1) ρ' → R ρ') → tg (.int (i : Int)) ρ (fun ρ1 => body ρ1 (fun f => match f with | .next ρ2 => R ρ2 | .cont ρ2 => R ρ2 | .brk ρ2 => Q (.next ρ2) | .ret d => Q (.ret d)) E) E) (ρ : Env) (h0 : I 0 ρ) : forL tg body (rngD 0 n) ρ Q E := by
  rw [rng0]
  refine forL_indF _ I _ (by rw [List.length_range]; exact hend) (fun i a ρ R hx hi hR => ?_) ρ h0
  obtain ⟨hlt, e⟩ := List.getElem?_eq_some_iff.mp hx
  simp at hlt e
  subst e
  exact hs i ρ R hlt hi hR
end DL

set_option maxHeartbeats 4000000
namespace DL
open PySem PySem.Spec PyProof.Rows L2

theorem nr {α : Sort _} {a b : α} (h : a = b) : a = b := h
/-! ### what is left to do, by name: so a step never looks into it -/
section
variable {Q : D → Prop} {QL : List D → Prop} {QB : Bool → Prop} {QF : Fl → Prop} {QE : Env → Prop} {QO : Option Int → Prop} {E : Xn → Prop} {ρ ρ1 : Env} {i : Nat}
def kSeq (t : Env → W Fl) (QF : Fl → Prop) (E : Xn → Prop) : Fl → Prop := fun f => match f with | .next ρ' => t ρ' QF E | .brk ρ' => QF (.brk ρ') | .cont ρ' => QF (.cont ρ') | .ret d => QF (.ret d)
theorem k_seq {s t : Env → W Fl} : seqW s t ρ QF E = s ρ (kSeq t QF E) E := nr rfl
theorem kSeq_n {t : Env → W Fl} : kSeq t QF E (.next ρ) = t ρ QF E := nr rfl
theorem kSeq_b {t : Env → W Fl} : kSeq t QF E (.brk ρ) = QF (.brk ρ) := nr rfl
theorem kSeq_c {t : Env → W Fl} : kSeq t QF E (.cont ρ) = QF (.cont ρ) := nr rfl
theorem kSeq_r {t : Env → W Fl} {d : D} : kSeq t QF E (.ret d) = QF (.ret d) := nr rfl
def optK {α : Type} (Q : α → Prop) : Option α → Prop | some a => Q a | none => False
theorem optK_s {α : Type} {Q : α → Prop} {a : α} : optK Q (some a) = Q a := nr rfl
def kVar (Q : D → Prop) : Option (Option D) → Prop | some (some d) => Q d | _ => False
theorem kVar_s {d : D} : kVar Q (some (some d)) = Q d := nr rfl
theorem k_var : varW i ρ Q E = kVar Q ρ[i]? := by unfold varW kVar; rcases ρ[i]? with _ | _ | _ <;> rfl
theorem k_c {d : D} : cW d ρ Q E = Q d := nr rfl
def kUn (f : D → W D) (Q : D → Prop) (E : Xn → Prop) : D → Prop := fun x => f x Q E
theorem k_un {f : D → W D} {wa : Env → W D} : unW f wa ρ Q E = wa ρ (kUn f Q E) E := nr rfl
theorem kUn_e {f : D → W D} {x : D} : kUn f Q E x = f x Q E := nr rfl
def kB2 (f : D → D → W D) (Q : D → Prop) (E : Xn → Prop) (x : D) : D → Prop := fun y => f x y Q E
def kB1 (f : D → D → W D) (wb : Env → W D) (ρ : Env) (Q : D → Prop) (E : Xn → Prop) : D → Prop := fun x => wb ρ (kB2 f Q E x) E
theorem k_bin {f : D → D → W D} {wa wb : Env → W D} : binW f wa wb ρ Q E = wa ρ (kB1 f wb ρ Q E) E := nr rfl
theorem kB1_e {f : D → D → W D} {wb : Env → W D} {x : D} : kB1 f wb ρ Q E x = wb ρ (kB2 f Q E x) E := nr rfl
theorem kB2_e {f : D → D → W D} {x y : D} : kB2 f Q E x y = f x y Q E := nr rfl
theorem k_nil : nilW ρ QL E = QL [] := nr rfl
def kC2 (QL : List D → Prop) (x : D) : List D → Prop := fun xs => QL (x :: xs)
def kC1 (wr : Env → W (List D)) (ρ : Env) (QL : List D → Prop) (E : Xn → Prop) : D → Prop := fun x => wr ρ (kC2 QL x) E
theorem k_cons {wa : Env → W D} {wr : Env → W (List D)} : consW wa wr ρ QL E = wa ρ (kC1 wr ρ QL E) E := nr rfl
theorem kC1_e {wr : Env → W (List D)} {x : D} : kC1 wr ρ QL E x = wr ρ (kC2 QL x) E := nr rfl
theorem kC2_e {x : D} {xs : List D} : kC2 QL x xs = QL (x :: xs) := nr rfl
def kApp (f : List D → W D) (Q : D → Prop) (E : Xn → Prop) : List D → Prop := fun xs => f xs Q E
theorem k_app {f : List D → W D} {ws : Env → W (List D)} : appW f ws ρ Q E = ws ρ (kApp f Q E) E := nr rfl
theorem kApp_e {f : List D → W D} {xs : List D} : kApp f Q E xs = f xs Q E := nr rfl
def kBl (QB : Bool → Prop) : D → Prop | .bl b => QB b | _ => False
theorem kBl_e {b : Bool} : kBl QB (.bl b) = QB b := nr rfl
theorem k_bl {wa : Env → W D} : blW wa ρ QB E = wa ρ (kBl QB) E := by
  unfold blW; congr 1
def kTr (QB : Bool → Prop) : D → Prop | .bl b => QB b | .int i => QB (i != 0) | .non => QB false | _ => False
theorem kTr_b {b : Bool} : kTr QB (.bl b) = QB b := nr rfl
theorem kTr_i {i : Int} : kTr QB (.int i) = QB (i != 0) := nr rfl
theorem kTr_n : kTr QB .non = QB false := nr rfl
theorem k_tr {wa : Env → W D} : trW wa ρ QB E = wa ρ (kTr QB) E := by
  unfold trW; congr 1
def kNot (QB : Bool → Prop) : Bool → Prop := fun b => QB (!b)
theorem k_not {wa : Env → W Bool} : notT wa ρ QB E = wa ρ (kNot QB) E := nr rfl
theorem kNot_e {b : Bool} : kNot QB b = QB (!b) := nr rfl
def kAnd (wb : Env → W Bool) (ρ : Env) (QB : Bool → Prop) (E : Xn → Prop) : Bool → Prop := fun b => if b = true then wb ρ QB E else QB false
theorem k_and {wa wb : Env → W Bool} : andT wa wb ρ QB E = wa ρ (kAnd wb ρ QB E) E := nr rfl
theorem kAnd_t {wb : Env → W Bool} : kAnd wb ρ QB E true = wb ρ QB E := nr rfl
theorem kAnd_f {wb : Env → W Bool} : kAnd wb ρ QB E false = QB false := nr rfl
theorem kAnd_of {wb : Env → W Bool} {b : Bool} (h : b = true → wb ρ QB E) (k : b = false → QB false) : kAnd wb ρ QB E b := by
  cases b
  · exact k rfl
  · exact h rfl
def kOr (wb : Env → W Bool) (ρ : Env) (QB : Bool → Prop) (E : Xn → Prop) : Bool → Prop := fun b => if b = true then QB true else wb ρ QB E
theorem k_or {wa wb : Env → W Bool} : orT wa wb ρ QB E = wa ρ (kOr wb ρ QB E) E := nr rfl
theorem kOr_t {wb : Env → W Bool} : kOr wb ρ QB E true = QB true := nr rfl
theorem kOr_f {wb : Env → W Bool} : kOr wb ρ QB E false = wb ρ QB E := nr rfl
theorem kOr_of {wb : Env → W Bool} {b : Bool} (h : b = true → QB true) (k : b = false → wb ρ QB E) : kOr wb ρ QB E b := by
  cases b
  · exact k rfl
  · exact h rfl
def kAndV (wb : Env → W D) (ρ : Env) (Q : D → Prop) (E : Xn → Prop) : D → Prop | .bl b => if b = true then wb ρ Q E else Q (.bl false) | _ => False
theorem k_andV {wa wb : Env → W D} : andV wa wb ρ Q E = wa ρ (kAndV wb ρ Q E) E := by unfold andV; congr 1
theorem kAndV_t {wb : Env → W D} : kAndV wb ρ Q E (.bl true) = wb ρ Q E := nr rfl
theorem kAndV_f {wb : Env → W D} : kAndV wb ρ Q E (.bl false) = Q (.bl false) := nr rfl
theorem kAndV_of {wb : Env → W D} {b : Bool} (h : b = true → wb ρ Q E) (k : b = false → Q (.bl false)) : kAndV wb ρ Q E (.bl b) := by
  cases b
  · exact k rfl
  · exact h rfl
def kOrV (wb : Env → W D) (ρ : Env) (Q : D → Prop) (E : Xn → Prop) : D → Prop | .bl b => if b = true then Q (.bl true) else wb ρ Q E | _ => False
theorem k_orV {wa wb : Env → W D} : orV wa wb ρ Q E = wa ρ (kOrV wb ρ Q E) E := by unfold orV; congr 1
theorem kOrV_t {wb : Env → W D} : kOrV wb ρ Q E (.bl true) = Q (.bl true) := nr rfl
theorem kOrV_f {wb : Env → W D} : kOrV wb ρ Q E (.bl false) = wb ρ Q E := nr rfl
theorem kOrV_of {wb : Env → W D} {b : Bool} (h : b = true → Q (.bl true)) (k : b = false → wb ρ Q E) : kOrV wb ρ Q E (.bl b) := by
  cases b
  · exact k rfl
  · exact h rfl
def kNotV (Q : D → Prop) : D → Prop | .bl b => Q (.bl (!b)) | _ => False
theorem k_notV {wa : Env → W D} : notV wa ρ Q E = wa ρ (kNotV Q) E := by unfold notV; congr 1
theorem kNotV_e {b : Bool} : kNotV Q (.bl b) = Q (.bl (!b)) := nr rfl
def kIf (wa wb : Env → W D) (ρ : Env) (Q : D → Prop) (E : Xn → Prop) : Bool → Prop := fun b => if b = true then wa ρ Q E else wb ρ Q E
theorem k_if {wt : Env → W Bool} {wa wb : Env → W D} : ifW wt wa wb ρ Q E = wt ρ (kIf wa wb ρ Q E) E := nr rfl
theorem kIf_t {wa wb : Env → W D} : kIf wa wb ρ Q E true = wa ρ Q E := nr rfl
theorem kIf_f {wa wb : Env → W D} : kIf wa wb ρ Q E false = wb ρ Q E := nr rfl
theorem kIf_of {wa wb : Env → W D} {b : Bool} (h : b = true → wa ρ Q E) (k : b = false → wb ρ Q E) : kIf wa wb ρ Q E b := by
  cases b
  · exact k rfl
  · exact h rfl
def kUp (Q : D → Prop) : D → Prop := fun d => im d = true ∧ Q d
theorem k_up {we : Env → W D} : upW we ρ Q E = we ρ (kUp Q) E := nr rfl
theorem kUp_e {d : D} : kUp Q d = (im d = true ∧ Q d) := nr rfl
def kTup (Q : D → Prop) : List D → Prop := fun ds => Q (.tup ds)
theorem k_tup {ws : Env → W (List D)} : tupW ws ρ Q E = ws ρ (kTup Q) E := nr rfl
theorem kTup_e {ds : List D} : kTup Q ds = Q (.tup ds) := nr rfl
def kLst (Q : D → Prop) : List D → Prop := fun ds => Q (.lst ds)
theorem k_lst {ws : Env → W (List D)} : lstW ws ρ Q E = ws ρ (kLst Q) E := nr rfl
theorem kLst_e {ds : List D} : kLst Q ds = Q (.lst ds) := nr rfl
theorem k_next : nextW ρ QF E = QF (.next ρ) := nr rfl
theorem k_brk : brkW ρ QF E = QF (.brk ρ) := nr rfl
theorem k_cont : contW ρ QF E = QF (.cont ρ) := nr rfl
def kAsg (i : Nat) (ρ : Env) (QF : Fl → Prop) : D → Prop := fun d => QF (.next (ρ.set i (some d)))
theorem k_asg {we : Env → W D} : asgW i we ρ QF E = we ρ (kAsg i ρ QF) E := nr rfl
theorem kAsg_e {d : D} : kAsg i ρ QF d = QF (.next (ρ.set i (some d))) := nr rfl
def kExp (ρ : Env) (QF : Fl → Prop) : D → Prop := fun _ => QF (.next ρ)
theorem k_expr {we : Env → W D} : exprW we ρ QF E = we ρ (kExp ρ QF) E := nr rfl
theorem kExp_e {d : D} : kExp ρ QF d = QF (.next ρ) := nr rfl
def kRet (QF : Fl → Prop) : D → Prop := fun d => QF (.ret d)
theorem k_ret {we : Env → W D} : retW we ρ QF E = we ρ (kRet QF) E := nr rfl
theorem kRet_e {d : D} : kRet QF d = QF (.ret d) := nr rfl
theorem k_retN : retNW ρ QF E = QF (.ret .non) := nr rfl
def kIte (s t : Env → W Fl) (ρ : Env) (QF : Fl → Prop) (E : Xn → Prop) : Bool → Prop := fun b => if b = true then s ρ QF E else t ρ QF E
theorem k_ite {wt : Env → W Bool} {s t : Env → W Fl} : iteW wt s t ρ QF E = wt ρ (kIte s t ρ QF E) E := nr rfl
theorem kIte_t {s t : Env → W Fl} : kIte s t ρ QF E true = s ρ QF E := nr rfl
theorem kIte_f {s t : Env → W Fl} : kIte s t ρ QF E false = t ρ QF E := nr rfl
theorem kIte_of {s t : Env → W Fl} {b : Bool} (h : b = true → s ρ QF E) (k : b = false → t ρ QF E) : kIte s t ρ QF E b := by
  cases b
  · exact k rfl
  · exact h rfl
def kFor (tg : D → Env → W Env) (b : Env → W Fl) (ρ : Env) (QF : Fl → Prop) (E : Xn → Prop) : List D → Prop := fun ds => forL tg b ds ρ QF E
theorem k_for {wi : Env → W (List D)} {tg : D → Env → W Env} {b : Env → W Fl} : forW wi tg b ρ QF E = wi ρ (kFor tg b ρ QF E) E := nr rfl
theorem kFor_e {tg : D → Env → W Env} {b : Env → W Fl} {ds : List D} : kFor tg b ρ QF E ds = forL tg b ds ρ QF E := nr rfl
def kComp (vs : List Nat) (tg : D → Env → W Env) (wt : Env → W Bool) (we : Env → W D) (ρ : Env) (Q : D → Prop) : List D → Prop := fun ds => compL tg wt we (wipeD ρ vs) ds (kLst Q) noX
theorem k_comp {vs : List Nat} {wi : Env → W (List D)} {tg : D → Env → W Env} {wt : Env → W Bool} {we : Env → W D} : compW vs wi tg wt we ρ Q E = wi ρ (kComp vs tg wt we ρ Q) E := nr rfl
theorem kComp_e {vs : List Nat} {tg : D → Env → W Env} {wt : Env → W Bool} {we : Env → W D} {ds : List D} : kComp vs tg wt we ρ Q ds = compL tg wt we (wipeD ρ vs) ds (kLst Q) noX := nr rfl
theorem k_yes : yesW ρ QB E = QB true := nr rfl
theorem k_tName {d : D} : tName i d ρ QE E = QE (ρ.set i (some d)) := nr rfl
theorem k_tTup {t : List D → Env → W Env} {ds : List D} : tTup' t (.tup ds) ρ QE E = t ds ρ QE E := nr rfl
def kTC (u : List D → Env → W Env) (ds : List D) (QE : Env → Prop) (E : Xn → Prop) : Env → Prop := fun ρ1 => u ds ρ1 QE E
theorem k_tCons {t : D → Env → W Env} {u : List D → Env → W Env} {d : D} {ds : List D} : tCons' t u (d :: ds) ρ QE E = t d ρ (kTC u ds QE E) E := nr rfl
theorem kTC_e {u : List D → Env → W Env} {ds : List D} : kTC u ds QE E ρ1 = u ds ρ1 QE E := nr rfl
theorem k_tNil : tNil' [] ρ QE E = QE ρ := nr rfl
def kNx (QF : Fl → Prop) : Env → Prop := fun ρ' => QF (.next ρ')
theorem kNx_e : kNx QF ρ = QF (.next ρ) := nr rfl
def kAT (t : D → Env → W Env) (ρ : Env) (QF : Fl → Prop) (E : Xn → Prop) : D → Prop := fun d => t d ρ (kNx QF) E
theorem k_asgT {we : Env → W D} {t : D → Env → W Env} : asgTW we t ρ QF E = we ρ (kAT t ρ QF E) E := nr rfl
theorem kAT_e {t : D → Env → W Env} {d : D} : kAT t ρ QF E d = t d ρ (kNx QF) E := nr rfl
def kP2 (i j : Nat) (ρ : Env) (QF : Fl → Prop) (d1 : D) : D → Prop := fun d2 => QF (.next ((ρ.set i (some d1)).set j (some d2)))
def kP1 (i j : Nat) (w2 : Env → W D) (ρ : Env) (QF : Fl → Prop) (E : Xn → Prop) : D → Prop := fun d1 => w2 ρ (kP2 i j ρ QF d1) E
theorem k_par {j : Nat} {w1 w2 : Env → W D} : parW i j w1 w2 ρ QF E = w1 ρ (kP1 i j w2 ρ QF E) E := nr rfl
theorem kP1_e {j : Nat} {w2 : Env → W D} {d : D} : kP1 i j w2 ρ QF E d = w2 ρ (kP2 i j ρ QF d) E := nr rfl
theorem kP2_e {j : Nat} {d1 d : D} : kP2 i j ρ QF d1 d = QF (.next ((ρ.set i (some d1)).set j (some d))) := nr rfl
def kSq (QL : List D → Prop) : D → Prop := fun x => optK QL (seqB x)
theorem kSq_e {x : D} : kSq QL x = optK QL (seqB x) := nr rfl
theorem k_sq {we : Env → W D} : seqI we ρ QL E = we ρ (kSq QL) E := by
  unfold seqI kSq; congr 1; funext x; cases seqB x <;> rfl
theorem seqB_t {xs : List D} : seqB (.tup xs) = some xs := nr rfl
theorem seqB_l {xs : List D} : seqB (.lst xs) = some xs := nr rfl
def imK (QL : List D → Prop) : List D → Prop := fun xs => imL xs = true ∧ QL xs
theorem imK_e {xs : List D} : imK QL xs = (imL xs = true ∧ QL xs) := nr rfl
def kSqr (QL : List D → Prop) : D → Prop := fun x => optK (imK QL) (seqB x)
theorem kSqr_e {x : D} : kSqr QL x = optK (imK QL) (seqB x) := nr rfl
theorem k_sqr {we : Env → W D} : seqIr we ρ QL E = we ρ (kSqr QL) E := by
  unfold seqIr kSqr; congr 1; funext x; cases seqB x <;> rfl
def enK (QL : List D → Prop) : List D → Prop := fun xs => QL (enumD xs)
theorem enK_e {xs : List D} : enK QL xs = QL (enumD xs) := nr rfl
def kEn (QL : List D → Prop) : D → Prop := fun x => optK (enK QL) (seqB x)
theorem kEn_e {x : D} : kEn QL x = optK (enK QL) (seqB x) := nr rfl
theorem k_en {we : Env → W D} : enumI we ρ QL E = we ρ (kEn QL) E := by
  unfold enumI kEn; congr 1; funext x; cases seqB x <;> rfl
def kR1 (QL : List D → Prop) : D → Prop | .int j => (-(2 ^ 62) ≤ j ∧ j ≤ 16777216) ∧ QL (rngD 0 j.toNat) | _ => False
theorem kR1_e {j : Int} : kR1 QL (.int j) = ((-(2 ^ 62) ≤ j ∧ j ≤ 16777216) ∧ QL (rngD 0 j.toNat)) := nr rfl
theorem k_r1 {we : Env → W D} : rangeI1 we ρ QL E = we ρ (kR1 QL) E := by unfold rangeI1; congr 1
def kR22 (QL : List D → Prop) (x : D) : D → Prop := fun y => match x, y with | .int i, .int j => (-(2 ^ 62) ≤ i ∧ i < 2 ^ 62 ∧ -(2 ^ 62) ≤ j ∧ j < 2 ^ 62 ∧ j - i ≤ 16777216) ∧ QL (rngD i (j - i).toNat) | _, _ => False
def kR21 (wb : Env → W D) (ρ : Env) (QL : List D → Prop) (E : Xn → Prop) : D → Prop := fun x => wb ρ (kR22 QL x) E
theorem k_r2 {wa wb : Env → W D} : rangeI2 wa wb ρ QL E = wa ρ (kR21 wb ρ QL E) E := nr rfl
theorem kR21_e {wb : Env → W D} {x : D} : kR21 wb ρ QL E x = wb ρ (kR22 QL x) E := nr rfl
theorem kR22_e {i j : Int} : kR22 QL (.int i) (.int j) = ((-(2 ^ 62) ≤ i ∧ i < 2 ^ 62 ∧ -(2 ^ 62) ≤ j ∧ j < 2 ^ 62 ∧ j - i ≤ 16777216) ∧ QL (rngD i (j - i).toNat)) := nr rfl
def kZ2 (QL : List D → Prop) (x : D) : D → Prop := fun y => match x, y with | .lst xs, .lst ys => QL (zipD xs ys) | .tup xs, .tup ys => QL (zipD xs ys) | _, _ => False
def kZ1 (wb : Env → W D) (ρ : Env) (QL : List D → Prop) (E : Xn → Prop) : D → Prop := fun x => wb ρ (kZ2 QL x) E
theorem k_zip {wa wb : Env → W D} : zipI wa wb ρ QL E = wa ρ (kZ1 wb ρ QL E) E := by
  unfold zipI kZ1; congr 1
theorem kZ1_e {wb : Env → W D} {x : D} : kZ1 wb ρ QL E x = wb ρ (kZ2 QL x) E := nr rfl
theorem kZ2_l {xs ys : List D} : kZ2 QL (.lst xs) (.lst ys) = QL (zipD xs ys) := nr rfl
theorem kZ2_t {xs ys : List D} : kZ2 QL (.tup xs) (.tup ys) = QL (zipD xs ys) := nr rfl
def kCh3 (f' : D → D → W D) (Q : D → Prop) (E : Xn → Prop) (y : D) : D → Prop := fun w => f' y w Q E
def kCh2b (f' : D → D → W D) (wc : Env → W D) (ρ : Env) (Q : D → Prop) (E : Xn → Prop) (y : D) : D → Prop | .bl k => if k = true then wc ρ (kCh3 f' Q E y) E else Q (.bl false) | _ => False
def kCh2 (f f' : D → D → W D) (wc : Env → W D) (ρ : Env) (Q : D → Prop) (E : Xn → Prop) (x : D) : D → Prop := fun y => f x y (kCh2b f' wc ρ Q E y) E
def kCh1 (f f' : D → D → W D) (wb wc : Env → W D) (ρ : Env) (Q : D → Prop) (E : Xn → Prop) : D → Prop := fun x => wb ρ (kCh2 f f' wc ρ Q E x) E
theorem k_chain {f f' : D → D → W D} {wa wb wc : Env → W D} : chainW f f' wa wb wc ρ Q E = wa ρ (kCh1 f f' wb wc ρ Q E) E := by
  unfold chainW kCh1 kCh2
  congr 1
theorem kCh1_e {f f' : D → D → W D} {wb wc : Env → W D} {x : D} : kCh1 f f' wb wc ρ Q E x = wb ρ (kCh2 f f' wc ρ Q E x) E := nr rfl
theorem kCh2_e {f f' : D → D → W D} {wc : Env → W D} {x y : D} : kCh2 f f' wc ρ Q E x y = f x y (kCh2b f' wc ρ Q E y) E := nr rfl
theorem kCh2_t {f' : D → D → W D} {wc : Env → W D} {y : D} : kCh2b f' wc ρ Q E y (.bl true) = wc ρ (kCh3 f' Q E y) E := nr rfl
theorem kCh2_f {f' : D → D → W D} {wc : Env → W D} {y : D} : kCh2b f' wc ρ Q E y (.bl false) = Q (.bl false) := nr rfl
theorem kCh2_of {f' : D → D → W D} {wc : Env → W D} {y : D} {b : Bool} (h : b = true → wc ρ (kCh3 f' Q E y) E) (k : b = false → Q (.bl false)) : kCh2b f' wc ρ Q E y (.bl b) := by
  cases b
  · exact k rfl
  · exact h rfl
theorem kCh3_e {f' : D → D → W D} {y w : D} : kCh3 f' Q E y w = f' y w Q E := nr rfl
def kSl3 (Q : D → Prop) (x : D) (lo : Option Int) : Option Int → Prop := fun hi => optK Q (sliceB lo hi x)
def kSl2 (wh : Env → W (Option Int)) (ρ : Env) (Q : D → Prop) (E : Xn → Prop) (x : D) : Option Int → Prop := fun lo => wh ρ (kSl3 Q x lo) E
def kSl1 (wl wh : Env → W (Option Int)) (ρ : Env) (Q : D → Prop) (E : Xn → Prop) : D → Prop := fun x => wl ρ (kSl2 wh ρ Q E x) E
theorem k_slice {we : Env → W D} {wl wh : Env → W (Option Int)} : sliceW we wl wh ρ Q E = we ρ (kSl1 wl wh ρ Q E) E := by
  unfold sliceW kSl1 kSl2 kSl3
  congr 1; funext x; congr 1; funext lo; congr 1; funext hi; cases sliceB lo hi x <;> rfl
theorem kSl1_e {wl wh : Env → W (Option Int)} {x : D} : kSl1 wl wh ρ Q E x = wl ρ (kSl2 wh ρ Q E x) E := nr rfl
theorem kSl2_e {wh : Env → W (Option Int)} {x : D} {lo : Option Int} : kSl2 wh ρ Q E x lo = wh ρ (kSl3 Q x lo) E := nr rfl
theorem kSl3_e {x : D} {lo hi : Option Int} : kSl3 Q x lo hi = optK Q (sliceB lo hi x) := nr rfl
theorem k_noPart : noPartW ρ QO E = QO none := nr rfl
def kPart (QO : Option Int → Prop) : D → Prop | .int i => QO (some i) | _ => False
theorem k_part {we : Env → W D} : partW we ρ QO E = we ρ (kPart QO) E := by unfold partW; congr 1
theorem kPart_e {i : Int} : kPart QO (.int i) = QO (some i) := nr rfl
def kRun (Q : D → Prop) : Fl → Prop | .ret d => Q d | .next _ => Q .non | .brk _ => False | .cont _ => False
theorem k_run {n : Nat} {body : Env → W Fl} {ds : List D} : runW n body ds Q E = body (ds.map some ++ List.replicate (n - ds.length) none) (kRun Q) E := by unfold runW; congr 1
theorem kRun_r {d : D} : kRun Q (.ret d) = Q d := nr rfl
theorem kRun_n : kRun Q (.next ρ) = Q .non := nr rfl
def kRunM (Q : D → Prop) : Fl → Prop | .next ρ => kVar Q ρ[0]? | _ => False
theorem k_runM {n : Nat} {body : Env → W Fl} {ds : List D} : runM n body ds Q E = body (ds.map some ++ List.replicate (n - ds.length) none) (kRunM Q) E := by
  unfold runM; congr 1
theorem kRunM_n : kRunM Q (.next ρ) = kVar Q ρ[0]? := nr rfl
/-! changes -/
def kLA (f : List D → Prop) : Option (Option D) → Prop | some (some (.lst xs)) => f xs | _ => False
theorem kLA_s {f : List D → Prop} {xs : List D} : kLA f (some (some (.lst xs))) = f xs := nr rfl
theorem lstAt_k {f : List D → Prop} : lstAt ρ i f = kLA f ρ[i]? := by
  unfold lstAt kLA; rcases ρ[i]? with _ | _ | d
  · rfl
  · rfl
  · cases d <;> rfl
def kApd2 (i : Nat) (ρ : Env) (QF : Fl → Prop) (xs : List D) : D → Prop := fun d => xs.length < 16777216 ∧ QF (.next (ρ.set i (some (.lst (xs ++ [d])))))
def kApd1 (i : Nat) (we : Env → W D) (ρ : Env) (QF : Fl → Prop) (E : Xn → Prop) : List D → Prop := fun xs => we ρ (kApd2 i ρ QF xs) E
theorem k_append {we : Env → W D} : appendW i we ρ QF E = kLA (kApd1 i we ρ QF E) ρ[i]? := lstAt_k
theorem kApd1_e {we : Env → W D} {xs : List D} : kApd1 i we ρ QF E xs = we ρ (kApd2 i ρ QF xs) E := nr rfl
theorem kApd2_e {xs : List D} {d : D} : kApd2 i ρ QF xs d = (xs.length < 16777216 ∧ QF (.next (ρ.set i (some (.lst (xs ++ [d])))))) := nr rfl
def kExt2 (i : Nat) (ρ : Env) (QF : Fl → Prop) (xs : List D) : D → Prop := fun d => match d with | .lst ys => xs.length + ys.length ≤ 16777216 ∧ QF (.next (ρ.set i (some (.lst (xs ++ ys))))) | _ => False
def kExt1 (i : Nat) (we : Env → W D) (ρ : Env) (QF : Fl → Prop) (E : Xn → Prop) : List D → Prop := fun xs => we ρ (kExt2 i ρ QF xs) E
theorem k_extend {we : Env → W D} : extendW i we ρ QF E = kLA (kExt1 i we ρ QF E) ρ[i]? := by
  unfold extendW; rw [lstAt_k]; congr 1
theorem kExt1_e {we : Env → W D} {xs : List D} : kExt1 i we ρ QF E xs = we ρ (kExt2 i ρ QF xs) E := nr rfl
theorem kExt2_e {xs ys : List D} : kExt2 i ρ QF xs (.lst ys) = (xs.length + ys.length ≤ 16777216 ∧ QF (.next (ρ.set i (some (.lst (xs ++ ys)))))) := nr rfl
def kSix3 (i : Nat) (ρ : Env) (QF : Fl → Prop) (xs : List D) (d : D) : Option Nat → Prop | some j => QF (.next (ρ.set i (some (.lst (xs.set j d))))) | none => False
def kSix2 (i : Nat) (ρ : Env) (QF : Fl → Prop) (xs : List D) (d : D) : D → Prop | .int k => kSix3 i ρ QF xs d (ixN xs.length k) | _ => False
def kSix1 (i : Nat) (wk : Env → W D) (ρ : Env) (QF : Fl → Prop) (E : Xn → Prop) (xs : List D) : D → Prop := fun d => wk ρ (kSix2 i ρ QF xs d) E
def kSix0 (i : Nat) (wk we : Env → W D) (ρ : Env) (QF : Fl → Prop) (E : Xn → Prop) : List D → Prop := fun xs => we ρ (kSix1 i wk ρ QF E xs) E
theorem k_setIx {wk we : Env → W D} : setIxW i wk we ρ QF E = kLA (kSix0 i wk we ρ QF E) ρ[i]? := by
  unfold setIxW; rw [lstAt_k]; congr 1
theorem kSix0_e {wk we : Env → W D} {xs : List D} : kSix0 i wk we ρ QF E xs = we ρ (kSix1 i wk ρ QF E xs) E := nr rfl
theorem kSix1_e {wk : Env → W D} {xs : List D} {d : D} : kSix1 i wk ρ QF E xs d = wk ρ (kSix2 i ρ QF xs d) E := nr rfl
theorem kSix2_e {xs : List D} {d : D} {k : Int} : kSix2 i ρ QF xs d (.int k) = kSix3 i ρ QF xs d (ixN xs.length k) := nr rfl
theorem kSix3_e {xs : List D} {d : D} {j : Nat} : kSix3 i ρ QF xs d (some j) = QF (.next (ρ.set i (some (.lst (xs.set j d))))) := nr rfl
def kDA (f : List Key → List D → Prop) : Option (Option D) → Prop | some (some (.dct ks ds)) => f ks ds | _ => False
theorem kDA_s {f : List Key → List D → Prop} {ks : List Key} {ds : List D} : kDA f (some (some (.dct ks ds))) = f ks ds := nr rfl
theorem dctAt_k {f : List Key → List D → Prop} : dctAt ρ i f = kDA f ρ[i]? := by
  unfold dctAt kDA; rcases ρ[i]? with _ | _ | d
  · rfl
  · rfl
  · cases d <;> rfl
def kPut3 (i : Nat) (ρ : Env) (QF : Fl → Prop) (ks : List Key) (ds : List D) (d : D) : Option Key → Prop | some k => ks.length < 16777216 ∧ QF (.next (ρ.set i (some (.dct (putD ks ds k d).1 (putD ks ds k d).2)))) | none => False
def kPut2 (i : Nat) (ρ : Env) (QF : Fl → Prop) (ks : List Key) (ds : List D) (d : D) : D → Prop := fun y => kPut3 i ρ QF ks ds d (keyOf y)
def kPut1 (i : Nat) (wk : Env → W D) (ρ : Env) (QF : Fl → Prop) (E : Xn → Prop) (ks : List Key) (ds : List D) : D → Prop := fun d => wk ρ (kPut2 i ρ QF ks ds d) E
def kPut0 (i : Nat) (wk we : Env → W D) (ρ : Env) (QF : Fl → Prop) (E : Xn → Prop) : List Key → List D → Prop := fun ks ds => we ρ (kPut1 i wk ρ QF E ks ds) E
theorem k_put {wk we : Env → W D} : putW i wk we ρ QF E = kDA (kPut0 i wk we ρ QF E) ρ[i]? := by
  unfold putW; rw [dctAt_k]; congr 1
theorem kPut0_e {wk we : Env → W D} {ks : List Key} {ds : List D} : kPut0 i wk we ρ QF E ks ds = we ρ (kPut1 i wk ρ QF E ks ds) E := nr rfl
theorem kPut1_e {wk : Env → W D} {ks : List Key} {ds : List D} {d : D} : kPut1 i wk ρ QF E ks ds d = wk ρ (kPut2 i ρ QF ks ds d) E := nr rfl
theorem kPut2_i {ks : List Key} {ds : List D} {d : D} {j : Int} : kPut2 i ρ QF ks ds d (.int j) = (ks.length < 16777216 ∧ QF (.next (ρ.set i (some (.dct (putD ks ds (.inl j) d).1 (putD ks ds (.inl j) d).2))))) := nr rfl
theorem kPut2_s {ks : List Key} {ds : List D} {d : D} {j : Str} : kPut2 i ρ QF ks ds d (.str j) = (ks.length < 16777216 ∧ QF (.next (ρ.set i (some (.dct (putD ks ds (.inr j) d).1 (putD ks ds (.inr j) d).2))))) := nr rfl
def kAug2 (i : Nat) (ρ : Env) (QF : Fl → Prop) : D → Prop := fun d => QF (.next (ρ.set i (some d)))
theorem kAug2_e {d : D} : kAug2 i ρ QF d = QF (.next (ρ.set i (some d))) := nr rfl
def kAug1 (i : Nat) (f : D → D → W D) (ρ : Env) (QF : Fl → Prop) (E : Xn → Prop) (x : D) : D → Prop := fun y => f x y (kAug2 i ρ QF) E
theorem kAug1_e {f : D → D → W D} {x y : D} : kAug1 i f ρ QF E x y = f x y (kAug2 i ρ QF) E := nr rfl
def kAug0 (i : Nat) (f : D → D → W D) (we : Env → W D) (ρ : Env) (QF : Fl → Prop) (E : Xn → Prop) : Option (Option D) → Prop | some (some x) => we ρ (kAug1 i f ρ QF E x) E | _ => False
theorem kAug0_s {f : D → D → W D} {we : Env → W D} {x : D} : kAug0 i f we ρ QF E (some (some x)) = we ρ (kAug1 i f ρ QF E x) E := nr rfl
theorem k_aug {f : D → D → W D} {we : Env → W D} : augW i f we ρ QF E = kAug0 i f we ρ QF E ρ[i]? := by
  unfold augW kAug0; rcases ρ[i]? with _ | _ | _ <;> rfl
/-! operations that look -/
theorem k_len {x : D} : lenW x Q E = optK (fun i => Q (.int i)) (lenB x) := by unfold lenW optK; cases lenB x <;> rfl
theorem lenB_t {xs : List D} : lenB (.tup xs) = some (xs.length : Int) := nr rfl
theorem lenB_l {xs : List D} : lenB (.lst xs) = some (xs.length : Int) := nr rfl
theorem lenB_d {ks : List Key} {ds : List D} : lenB (.dct ks ds) = some (ks.length : Int) := nr rfl
theorem k_ix {x y : D} : ixW x y Q E = optK Q (ixB x y) := by unfold ixW optK; cases ixB x y <;> rfl
theorem k_ixr {x y : D} : ixrW x y Q E = optK (kUp Q) (ixB x y) := by unfold ixrW optK; cases ixB x y <;> rfl
theorem k_fld {cs : List Str} {f : Str} {x : D} : fldW cs f x Q E = optK Q (fldB cs f x) := by unfold fldW optK; cases fldB cs f x <;> rfl
def kB (Q : D → Prop) : Bool → Prop := fun b => Q (.bl b)
theorem kB_e {b : Bool} : kB Q b = Q (.bl b) := nr rfl
def kBn (Q : D → Prop) : Bool → Prop := fun b => Q (.bl (!b))
theorem kBn_e {b : Bool} : kBn Q b = Q (.bl (!b)) := nr rfl
theorem k_in {x y : D} : inW x y Q E = optK (kB Q) (inB x y) := by unfold inW optK; cases inB x y <;> rfl
theorem k_nin {x y : D} : ninW x y Q E = optK (kBn Q) (inB x y) := by unfold ninW optK; cases inB x y <;> rfl
theorem k_eq {x y : D} : eqW x y Q E = (DL.plain 50 x = true ∧ DL.plain 50 y = true ∧ Q (.bl (eqD x y))) := nr rfl
theorem k_ne {x y : D} : neW x y Q E = (DL.plain 50 x = true ∧ DL.plain 50 y = true ∧ Q (.bl (!eqD x y))) := nr rfl
theorem k_isi {T : String} {x : D} : isiW T x Q E = optK (fun a => Q (.bl (subT a T))) (tyN x) := by unfold isiW optK; cases tyN x <;> rfl
theorem k_is_n : isW .non .non Q E = Q (.bl true) := by unfold isW isNW; simp
theorem k_isn_n : isnW .non .non Q E = Q (.bl false) := by unfold isnW notNW; simp
def nonB : D → Bool | .non => true | _ => false
theorem k_is {x : D} : isW x .non Q E = Q (.bl (nonB x)) := by unfold isW isNW nonB; cases x <;> simp
theorem k_isn {x : D} : isnW x .non Q E = Q (.bl (!nonB x)) := by unfold isnW notNW nonB; cases x <;> simp
theorem o_add {a b : Int} : addW (.int a) (.int b) Q E = Q (.int (a + b)) := nr rfl
theorem o_addT {a b : List D} : addW (.tup a) (.tup b) Q E = (a.length + b.length ≤ sizeLine ∧ Q (.tup (a ++ b))) := nr rfl
theorem o_addL {a b : List D} : addW (.lst a) (.lst b) Q E = (a.length + b.length ≤ sizeLine ∧ Q (.lst (a ++ b))) := nr rfl
theorem o_sub {a b : Int} : subW (.int a) (.int b) Q E = Q (.int (a - b)) := nr rfl
theorem o_mul {a b : Int} : mulW (.int a) (.int b) Q E = (CMul a b ∧ Q (.int (a * b))) := nr rfl
theorem o_div {a b : Int} : divW (.int a) (.int b) Q E = (CDiv a b ∧ Q (.int (a / b))) := nr rfl
theorem o_mod {a b : Int} : modW (.int a) (.int b) Q E = (0 < b ∧ Q (.int (a % b))) := nr rfl
theorem o_pow {a b : Int} : powW (.int a) (.int b) Q E = (CPow a b ∧ Q (.int (a ^ b.toNat))) := nr rfl
theorem o_lt {a b : Int} : ltW (.int a) (.int b) Q E = Q (.bl (decide (a < b))) := nr rfl
theorem o_le {a b : Int} : leW (.int a) (.int b) Q E = Q (.bl (decide (a ≤ b))) := nr rfl
theorem o_gt {a b : Int} : gtW (.int a) (.int b) Q E = Q (.bl (decide (b < a))) := nr rfl
theorem o_ge {a b : Int} : geW (.int a) (.int b) Q E = Q (.bl (decide (b ≤ a))) := nr rfl
theorem o_int {a : Int} : intW (.int a) Q E = Q (.int a) := nr rfl
theorem o_intB {a : Bool} : intW (.bl a) Q E = Q (.int (if a then 1 else 0)) := nr rfl
theorem o_abs {a : Int} : absW (.int a) Q E = Q (.int (if a < 0 then -a else a)) := nr rfl
theorem o_neg {a : Int} : negW (.int a) Q E = Q (.int (-a)) := nr rfl
theorem o_tup {xs : List D} : tupOfW .v (.lst xs) Q E = Q (.tup xs) := by simp
theorem o_tupT {xs : List D} : tupOfW .v (.tup xs) Q E = Q (.tup xs) := by simp [tupOfW]
theorem o_lst {xs : List D} : lstOfW .v (.lst xs) Q E = Q (.lst xs) := by simp
theorem o_lstR {k : Kd} {xs : List D} : lstOfW k (.lst xs) Q E = (upL k xs ∧ Q (.lst xs)) := nr rfl
theorem o_lstT {xs : List D} : lstOfW .v (.tup xs) Q E = Q (.lst xs) := by simp
theorem o_lstTR {k : Kd} {xs : List D} : lstOfW k (.tup xs) Q E = (upOk k (.tup xs) ∧ Q (.lst xs)) := nr rfl
theorem o_lstD {k : Kd} {ks : List Key} {xs : List D} : lstOfW k (.dct ks xs) Q E = Q (.lst (ks.map kD)) := nr rfl
theorem o_sort {xs : List D} : sortW .v (.lst xs) Q E = (sortOk xs = true ∧ Q (.lst (sortD xs))) := by simp
theorem o_sortR {k : Kd} {xs : List D} : sortW k (.lst xs) Q E = (upL k xs ∧ sortOk xs = true ∧ Q (.lst (sortD xs))) := nr rfl
theorem o_sortD {k : Kd} {ks : List Key} {xs : List D} : sortW k (.dct ks xs) Q E = (sortOk (ks.map kD) = true ∧ Q (.lst (sortD (ks.map kD)))) := nr rfl
theorem o_ord {f : D → D → Bool} {x y : D} : ordW f x y Q E = (ordOk x y ∧ Q (.bl (f x y))) := nr rfl
theorem o_sortIt {k : Kd} {ks : List Key} {ds : List D} : sortItW k (.dct ks ds) Q E = (upL k ds ∧ sortOk (itemsD ks ds) = true ∧ Q (.lst (sortD (itemsD ks ds)))) := nr rfl
/-! goes on -/
def Goes (s : Env → W Fl) (ρ : Env) (P : Env → Prop) : Prop := ∀ QF E, (∀ ρ', P ρ' → QF (.next ρ')) → s ρ QF E
theorem Goes.seq {s t : Env → W Fl} {P : Env → Prop} (h : Goes s ρ P) (k : ∀ ρ', P ρ' → t ρ' QF E) : seqW s t ρ QF E := h _ _ fun ρ' p => k ρ' p
theorem Goes.kseq {s t : Env → W Fl} {P : Env → Prop} (h : Goes s ρ P) (k : ∀ ρ', P ρ' → t ρ' QF E) : s ρ (kSeq t QF E) E := h _ _ fun ρ' p => k ρ' p
end
end DL

namespace DL
open PySem PySem.Spec PyProof.Rows L2

section
variable {Q : D → Prop} {QL : List D → Prop} {QB : Bool → Prop} {QF : Fl → Prop} {QE : Env → Prop} {QO : Option Int → Prop} {E : Xn → Prop} {ρ ρ1 : Env} {i : Nat}
/-! ### loops: what a turn leads to, by name -/
def kLoop (R : Env → Prop) (QF : Fl → Prop) : Fl → Prop := fun f => match f with | .next ρ2 => R ρ2 | .cont ρ2 => R ρ2 | .brk ρ2 => QF (.next ρ2) | .ret d => QF (.ret d)
theorem kLoop_n {R : Env → Prop} : kLoop R QF (.next ρ) = R ρ := nr rfl
theorem kLoop_c {R : Env → Prop} : kLoop R QF (.cont ρ) = R ρ := nr rfl
theorem kLoop_b {R : Env → Prop} : kLoop R QF (.brk ρ) = QF (.next ρ) := nr rfl
theorem kLoop_r {R : Env → Prop} {d : D} : kLoop R QF (.ret d) = QF (.ret d) := nr rfl
def kBody (body : Env → W Fl) (R : Env → Prop) (QF : Fl → Prop) (E : Xn → Prop) : Env → Prop := fun ρ1 => body ρ1 (kLoop R QF) E
theorem kBody_e {body : Env → W Fl} {R : Env → Prop} : kBody body R QF E ρ = body ρ (kLoop R QF) E := nr rfl
theorem forL_nil {tg : D → Env → W Env} {body : Env → W Fl} : forL tg body [] ρ QF E = QF (.next ρ) := nr rfl
theorem forL_cons {tg : D → Env → W Env} {body : Env → W Fl} {x : D} {xs : List D} : forL tg body (x :: xs) ρ QF E = tg x ρ (kBody body (fun ρ2 => forL tg body xs ρ2 QF E) QF E) E := by
  rw [forL]; rfl
/-- by what is taken so far -/
theorem forL_pre {α : Type} {tg : D → Env → W Env} {body : Env → W Fl} (f : α → D) (I : List α → Env → Prop) (xs : List α) (hend : ∀ ρ, I xs ρ → QF (.next ρ))
    (hs : ∀ (pre : List α) (a : α) (post : List α) (ρ : Env) (R : Env → Prop), xs = pre ++ a :: post → I pre ρ → (∀ ρ', I (pre ++ [a]) ρ' → R ρ') → tg (f a) ρ (kBody body R QF E) E) (ρ : Env) (h0 : I [] ρ) : forL tg body (xs.map f) ρ QF E := by
  have go : ∀ (post pre : List α) (ρ : Env), xs = pre ++ post → I pre ρ → forL tg body (post.map f) ρ QF E := by
    intro post
    induction post with
    | nil =>
      intro pre ρ e hi
      rw [List.append_nil] at e
      subst e
      exact hend ρ hi
    | cons a post ih =>
      intro pre ρ e hi
      rw [List.map_cons, forL_cons]
      exact hs pre a post ρ _ e hi fun ρ' hi' => ih (pre ++ [a]) ρ' (by rw [e]; simp) hi'
  exact go xs [] ρ rfl h0
theorem forL_range {tg : D → Env → W Env} {body : Env → W Fl} (I : Nat → Env → Prop) (n : Nat) (hend : ∀ ρ, I n ρ → QF (.next ρ))
    (hs : ∀ (i : Nat) (ρ : Env) (R : Env → Prop), i < n → I i ρ → (∀ ρ', I (i + 1) ρ' → R ρ') → tg (.int (i : Int)) ρ (kBody body R QF E) E) (ρ : Env) (h0 : I 0 ρ) : forL tg body (rngD 0 n) ρ QF E :=
  forL_rng I n hend hs ρ h0
/-- over a list, by place -/
theorem forL_at {α : Type} {tg : D → Env → W Env} {body : Env → W Fl} (f : α → D) (I : Nat → Env → Prop) (xs : List α) (hend : ∀ ρ, I xs.length ρ → QF (.next ρ))
    (hs : ∀ (i : Nat) (a : α) (ρ : Env) (R : Env → Prop), xs[i]? = some a → I i ρ → (∀ ρ', I (i + 1) ρ' → R ρ') → tg (f a) ρ (kBody body R QF E) E) (ρ : Env) (h0 : I 0 ρ) : forL tg body (xs.map f) ρ QF E :=
  forL_indF f I xs hend hs ρ h0
theorem enumD_map {α : Type} (f : α → D) (xs : List α) : enumD (xs.map f) = xs.zipIdx.map fun p => .tup [.int (p.2 : Nat), f p.1] := by
  unfold enumD
  rw [List.zipIdx_map, List.map_map]
  rfl
theorem zipD_map {α β : Type} (f : α → D) (g : β → D) (xs : List α) (ys : List β) : zipD (xs.map f) (ys.map g) = (xs.zip ys).map fun p => .tup [f p.1, g p.2] := by
  unfold zipD
  rw [List.zip_map, List.map_map]
  rfl
/-- while, by a measure -/
theorem while_ind {wt : Env → W Bool} {body : Env → W Fl} (I : Nat → Env → Prop)
    (hs : ∀ (m : Nat) (ρ : Env) (R : Env → Prop), I m ρ → (∀ m' ρ', m' < m → I m' ρ' → R ρ') → wt ρ (kIte body (fun ρ => fun QF _ => QF (.brk ρ)) ρ (kLoop R QF) E) E) (m : Nat) (ρ : Env) (h0 : I m ρ) : whileW wt body ρ QF E := by
  refine ⟨m + 1, ?_⟩
  have go : ∀ (n m : Nat) (ρ : Env), m < n → I m ρ → whileN wt body n ρ QF E := by
    intro n
    induction n with
    | zero => intro m ρ h; omega
    | succ n ih =>
      intro m ρ h hi
      have := hs m ρ (fun ρ' => whileN wt body n ρ' QF E) hi fun m' ρ' hl hi' => ih m' ρ' (by omega) hi'
      rw [whileN]
      exact this
  exact go (m + 1) m ρ (by omega) h0
theorem k_brk' : (fun ρ => fun (QF : Fl → Prop) (_ : Xn → Prop) => QF (.brk ρ)) ρ QF E = QF (.brk ρ) := nr rfl
/-! ### making, fields -/
def kMake (c : Str) (m : List D → W D) (Q : D → Prop) (E : Xn → Prop) : List D → Prop := fun ds => m (.obj c [] [] :: ds) Q E
theorem k_make {c : Str} {m : List D → W D} {wa : Env → W (List D)} : makeW c m wa ρ Q E = wa ρ (kMake c m Q E) E := nr rfl
theorem kMake_e {c : Str} {m : List D → W D} {ds : List D} : kMake c m Q E ds = m (.obj c [] [] :: ds) Q E := nr rfl
def kOA (cs : List Str) (f : Str → List Str → List D → Prop) : Option (Option D) → Prop | some (some (.obj c ns ds)) => c ∈ cs ∧ f c ns ds | _ => False
theorem kOA_s {cs : List Str} {f : Str → List Str → List D → Prop} {c : Str} {ns : List Str} {ds : List D} : kOA cs f (some (some (.obj c ns ds))) = (c ∈ cs ∧ f c ns ds) := nr rfl
theorem objAt_k {cs : List Str} {f : Str → List Str → List D → Prop} : objAt ρ i cs f = kOA cs f ρ[i]? := by
  unfold objAt kOA; rcases ρ[i]? with _ | _ | d
  · rfl
  · rfl
  · cases d <;> rfl
def kSF1 (i : Nat) (f : Str) (n : Nat) (ke : Kd) (ρ : Env) (QF : Fl → Prop) (c : Str) (ns : List Str) (ds : List D) : D → Prop := fun d => lvlOk n ke d ∧ ns.length < 900 ∧ QF (.next (ρ.set i (some (.obj c (putF' f d ns ds).1 (putF' f d ns ds).2))))
def kSF0 (i : Nat) (f : Str) (n : Nat) (ke : Kd) (we : Env → W D) (ρ : Env) (QF : Fl → Prop) (E : Xn → Prop) : Str → List Str → List D → Prop := fun c ns ds => we ρ (kSF1 i f n ke ρ QF c ns ds) E
theorem k_setFld {cs : List Str} {f : Str} {n : Nat} {ke : Kd} {we : Env → W D} : setFldW i cs f n ke we ρ QF E = kOA cs (kSF0 i f n ke we ρ QF E) ρ[i]? := objAt_k
theorem kSF0_e {f : Str} {n : Nat} {ke : Kd} {we : Env → W D} {c : Str} {ns : List Str} {ds : List D} : kSF0 i f n ke we ρ QF E c ns ds = we ρ (kSF1 i f n ke ρ QF c ns ds) E := nr rfl
theorem kSF1_e {f : Str} {n : Nat} {ke : Kd} {c : Str} {ns : List Str} {ds : List D} {d : D} : kSF1 i f n ke ρ QF c ns ds d = (lvlOk n ke d ∧ ns.length < 900 ∧ QF (.next (ρ.set i (some (.obj c (putF' f d ns ds).1 (putF' f d ns ds).2))))) := nr rfl
def kMe2 (i : Nat) (ρ : Env) (QF : Fl → Prop) : D → Prop := fun self' => QF (.next (ρ.set i (some self')))
def kMe1 (i : Nat) (m : List D → W D) (ρ : Env) (QF : Fl → Prop) (E : Xn → Prop) (c : Str) (ns : List Str) (ds0 : List D) : List D → Prop := fun ds => m (.obj c ns ds0 :: ds) (kMe2 i ρ QF) E
def kMe0 (i : Nat) (mn : Str) (m : List D → W D) (wa : Env → W (List D)) (ρ : Env) (QF : Fl → Prop) (E : Xn → Prop) : Str → List Str → List D → Prop := fun c ns ds0 => idxS mn ns = none ∧ wa ρ (kMe1 i m ρ QF E c ns ds0) E
theorem k_meth {cs : List Str} {mn : Str} {m : List D → W D} {wa : Env → W (List D)} : methW i cs mn m wa ρ QF E = kOA cs (kMe0 i mn m wa ρ QF E) ρ[i]? := objAt_k
theorem kMe0_e {mn : Str} {m : List D → W D} {wa : Env → W (List D)} {c : Str} {ns : List Str} {ds : List D} : kMe0 i mn m wa ρ QF E c ns ds = (idxS mn ns = none ∧ wa ρ (kMe1 i m ρ QF E c ns ds) E) := nr rfl
theorem kMe1_e {m : List D → W D} {c : Str} {ns : List Str} {ds0 ds : List D} : kMe1 i m ρ QF E c ns ds0 ds = m (.obj c ns ds0 :: ds) (kMe2 i ρ QF) E := nr rfl
theorem kMe2_e {d : D} : kMe2 i ρ QF d = QF (.next (ρ.set i (some d))) := nr rfl
/-! d.get, x[k] += e, x[i][j] = e -/
def kGet2 (k1 : Kd) (Q : D → Prop) (ks : List Key) (ds : List D) (y : D) : D → Prop := fun z => match keyOf y with | some k => upOk k1 ((dget ks ds k).getD .non) ∧ Q ((dget ks ds k).getD z) | none => False
def kGet1 (k1 : Kd) (wx : Env → W D) (ρ : Env) (Q : D → Prop) (E : Xn → Prop) (ks : List Key) (ds : List D) : D → Prop := fun y => wx ρ (kGet2 k1 Q ks ds y) E
def kGet0 (k1 : Kd) (wk wx : Env → W D) (ρ : Env) (Q : D → Prop) (E : Xn → Prop) : D → Prop | .dct ks ds => wk ρ (kGet1 k1 wx ρ Q E ks ds) E | _ => False
theorem k_get {k1 : Kd} {wd wk wx : Env → W D} : getCW k1 wd wk wx ρ Q E = wd ρ (kGet0 k1 wk wx ρ Q E) E := by
  unfold getCW; congr 1
theorem kGet0_e {k1 : Kd} {wk wx : Env → W D} {ks : List Key} {ds : List D} : kGet0 k1 wk wx ρ Q E (.dct ks ds) = wk ρ (kGet1 k1 wx ρ Q E ks ds) E := nr rfl
theorem kGet1_e {k1 : Kd} {wx : Env → W D} {ks : List Key} {ds : List D} {y : D} : kGet1 k1 wx ρ Q E ks ds y = wx ρ (kGet2 k1 Q ks ds y) E := nr rfl
theorem kGet2_i {k1 : Kd} {ks : List Key} {ds : List D} {j : Int} {z : D} : kGet2 k1 Q ks ds (.int j) z = (upOk k1 ((dget ks ds (.inl j)).getD .non) ∧ Q ((dget ks ds (.inl j)).getD z)) := nr rfl
theorem kGet2_s {k1 : Kd} {ks : List Key} {ds : List D} {j : Str} {z : D} : kGet2 k1 Q ks ds (.str j) z = (upOk k1 ((dget ks ds (.inr j)).getD .non) ∧ Q ((dget ks ds (.inr j)).getD z)) := nr rfl
theorem k_rep {xs : List D} {k : Int} : repW (.tup xs) (.int k) Q E = (xs ≠ [] ∧ 2 ≤ k ∧ k ≤ 1000 ∧ xs.length ≤ 1000 ∧ Q (.tup (List.replicate k.toNat xs).flatten)) := nr rfl
end
/-! ### what is known of plain data -/
theorem cut_take (xs : List D) (k : Nat) : cutD xs none (some (k : Int)) = xs.take k := by
  unfold cutD
  rw [HT.sIx_none, HT.sIx_nat, List.drop_zero, Nat.sub_zero]
  by_cases h : k ≤ xs.length
  · rw [Nat.min_eq_left h]
  · rw [Nat.min_eq_right (by omega), List.take_of_length_le (Nat.le_refl _), List.take_of_length_le (by omega)]
theorem cut_drop (xs : List D) (k : Nat) : cutD xs (some (k : Int)) none = xs.drop k := by
  unfold cutD
  rw [HT.sIx_none, HT.sIx_nat]
  by_cases h : k ≤ xs.length
  · rw [Nat.min_eq_left h, List.take_of_length_le]
    rw [List.length_drop]; exact Nat.le_refl _
  · rw [Nat.min_eq_right (by omega), List.drop_length, List.drop_of_length_le (by omega), List.take_nil]
theorem sl_tt (xs : List D) (k : Nat) : sliceB none (some (k : Int)) (.tup xs) = some (.tup (xs.take k)) := by rw [sliceB, cut_take]
theorem sl_td (xs : List D) (k : Nat) : sliceB (some (k : Int)) none (.tup xs) = some (.tup (xs.drop k)) := by rw [sliceB, cut_drop]
theorem sl_lt (xs : List D) (k : Nat) : sliceB none (some (k : Int)) (.lst xs) = some (.lst (xs.take k)) := by rw [sliceB, cut_take]
theorem sl_ld (xs : List D) (k : Nat) : sliceB (some (k : Int)) none (.lst xs) = some (.lst (xs.drop k)) := by rw [sliceB, cut_drop]
theorem sl_scr (ns : List Int) (k : Nat) : sliceB none (some (k : Int)) (.scr ns) = some (.lst ((ns.take k).map .int)) := by
  rw [sliceB, cut_take, List.map_take]
theorem intsOf_ints : ∀ l : List Int, intsOf (l.map D.int) = some l
  | [] => rfl
  | a :: l => by rw [List.map_cons, intsOf, intsOf_ints l]; rfl
theorem intsOf_f {α : Type} (f : α → Int) (l : List α) : intsOf (l.map fun a => D.int (f a)) = some (l.map f) := by
  rw [← intsOf_ints (l.map f), List.map_map]; rfl
theorem blsOf_f {α : Type} (f : α → Bool) : ∀ l : List α, blsOf (l.map fun a => D.bl (f a)) = some (l.map f)
  | [] => rfl
  | a :: l => by rw [List.map_cons, blsOf, blsOf_f f l]; rfl
theorem k_sum {l : List Int} {Q : D → Prop} {E : Xn → Prop} : sumW (.lst (l.map .int)) Q E = Q (.int l.sum) := by
  unfold sumW; simp only [intsOf_ints]
theorem k_sumF {α : Type} {f : α → Int} {l : List α} {Q : D → Prop} {E : Xn → Prop} : sumW (.lst (l.map fun a => .int (f a))) Q E = Q (.int (l.map f).sum) := by
  unfold sumW; simp only [intsOf_f]
theorem k_allF {α : Type} {f : α → Bool} {l : List α} {Q : D → Prop} {E : Xn → Prop} : allW (.lst (l.map fun a => .bl (f a))) Q E = Q (.bl (l.all f)) := by
  unfold allW; simp only [blsOf_f, List.all_map]; rfl
theorem k_anyF {α : Type} {f : α → Bool} {l : List α} {Q : D → Prop} {E : Xn → Prop} : anyW (.lst (l.map fun a => .bl (f a))) Q E = Q (.bl (l.any f)) := by
  unfold anyW; simp only [blsOf_f, List.any_map]; rfl
theorem ixB_ln {α : Type} (f : α → D) (xs : List α) (i : Nat) {a : α} (h : xs[i]? = some a) : ixB (.lst (xs.map f)) (.int (i : Nat)) = some (f a) := by
  have hl : i < xs.length := (List.getElem?_eq_some_iff.mp h).1
  unfold ixB
  simp only [L2.atI, ixN, List.length_map]
  rw [if_pos (by omega), if_pos (by omega)]
  simp [h]
theorem ixB_tn {α : Type} (f : α → D) (xs : List α) (i : Nat) {a : α} (h : xs[i]? = some a) : ixB (.tup (xs.map f)) (.int (i : Nat)) = some (f a) := by
  have hl : i < xs.length := (List.getElem?_eq_some_iff.mp h).1
  unfold ixB
  simp only [L2.atI, ixN, List.length_map]
  rw [if_pos (by omega), if_pos (by omega)]
  simp [h]
theorem ixN_nat {n i : Nat} (h : i < n) : ixN n (i : Int) = some i := by
  unfold ixN
  rw [if_pos (by omega), if_pos (by omega)]
  simp
theorem ix_last (xs : List D) (x : D) : ixB (.lst (xs ++ [x])) (.int (-1)) = some x := by
  unfold ixB
  simp [L2.atI, ixN]
  rw [if_pos (by omega)]
  have : ((-1 : Int) + (xs.length + 1)).toNat = xs.length := by omega
  rw [this]
  simp
theorem ix_lastT (xs : List D) (x : D) : ixB (.tup (xs ++ [x])) (.int (-1)) = some x := by
  unfold ixB
  simp [L2.atI, ixN]
  rw [if_pos (by omega)]
  have : ((-1 : Int) + (xs.length + 1)).toNat = xs.length := by omega
  rw [this]
  simp
theorem plain_i (n : Nat) (i : Int) : plain n (.int i) = true := by cases n <;> rfl
theorem plain_b (n : Nat) (b : Bool) : plain n (.bl b) = true := by cases n <;> rfl
theorem plain_n (n : Nat) : plain n .non = true := by cases n <;> rfl
theorem eqD_nn (a b : Nat) : eqD (.int (a : Nat)) (.int (b : Nat)) = decide (a = b) := eqF_nat a b
theorem eqD_nl (a b : Nat) : eqD (.int (a : Nat)) (.int (OfNat.ofNat b)) = decide (a = b) := eqF_nat a b
theorem eqD_ii (a b : Int) : eqD (.int a) (.int b) = decide (a = b) := eqF_int a b
theorem eqD_bb (a b : Bool) : eqD (.bl a) (.bl b) = decide (a = b) := eqF_bl a b
end DL

namespace DL
open PySem PySem.Spec PyProof.Rows L2
theorem walk_ofW {l : PySem.W.OpenLaw} {n k : Nat} {q : Program} {loose : List Str} {XP : (Str → Option Value) → Heap → Prop} {YP : World → Heap → Prop} {d : DefRec} {CX : World → CXT} {x : Str}
    (hn : l.most = some n) (hn2 : n ≤ sizeLine) (hdf : d.params.defaults = []) (hr : Room k callerA)
    (F : ∀ (w : World) (mg : Str → Option Value) (fa : Addr) (h : Heap), YP w h → h.Ns mainGlobals mg → mg d.name = some (.ref fa) →
      ∃ (K : PySem.W.Frag) (fd : FuncData) (sp : Sp), K.In h ∧ (∀ (s : Shared) (u : Value), BindsTo s fd ⟨[u], []⟩ [(x, u)]) ∧
        (∀ (H : Hp) (a : Addr) (ns : List Int), ns.length ≤ n → Only H → SqL K H a (ns.map V.int) → sp [.ref a] H (fun v _ => v = .bl true) fun _ _ _ => False) ∧
        ∀ base : Heap, K.In base → base.Ns mainGlobals mg → FnOk l.prog w K mg base (CX w) k fa fd [x] sp)
    (hCX : ∀ (w : World) (H : Hp) (s : Shared) (e : Value) (s' : Shared), CX w [] H s (fun _ _ _ => False) e s' → False) :
    PySem.W.WalkO q loose XP YP l.row.toRowW d [] (fun f vs => PySem.call f vs) := by
  refine Att.attach_call hn hdf fun w s₀ s₁ mg mb fa o pm cd doc a vs ns G Y ho hd hcd hmg hobj hints hlen hg => ?_
  obtain ⟨K, fd, sp, KX, hb, hsp, hF⟩ := F w mg fa _ Y G.T.g hmg
  exact law_call KX G.T.g G.T.b G.T.builtins G.T.nolimit hg hobj hints (Nat.le_trans hlen hn2) hr hF hb (fun H hO hS => hsp H a ns hlen hO hS) fun H e s' => hCX w H s₁ e s'
theorem cx_no {P : Program} {w : World} {H : Hp} {s : Shared} {e : Value} {s' : Shared} (h : L2.CX P w [] H s (fun _ _ _ => False) e s') : False := by
  obtain ⟨_, _, _, _, _, _, _, _, _, _, _, _, h⟩ := h
  exact h
end DL

namespace DL
open PySem PySem.Spec PyProof.Rows L2

/-! ### raise C() -/
structure ExcOk (K : PySem.W.Frag) (mg : Str → Option Value) (c : Str) : Prop where
  ex : ∃ Cl, mg c = some (.ref Cl) ∧ PySem.W.excIn K Cl He.veBase "ValueError.__new__" = true ∧ PySem.W.keepIn K (.ref Cl) = true ∧ PySem.W.subIn K (.ref Cl) (.type "BaseException") = some true ∧ PySem.W.typeIn K (.ref Cl) = some (.type "type")
def raiseW (c : Str) : Env → W Fl := fun _ _ E => E ⟨c, [], []⟩
section
variable {X : Cx} {C : Cf} {Ml M M1 M' : List Md} {rk : Kd} {Wx : WX} {pos p p2 : Pos} {G : Gx}
theorem pmk_own0 {Cl : Addr} {bmB : List Value} {B newId initId : String} {x : Str} (F : ExcBaseFacts B newId initId bmB) (q : PySem.W.excIn X.K Cl bmB newId = true) (gC : X.mg x = some (.ref Cl)) (kC : PySem.W.keepIn X.K (.ref Cl) = true) (r : Raises X (.ref Cl)) (hg : Gl X x)
    (hdb : (x == ("__debug__" : Str)) = false := by decide) : PMk X (.Call (.Name x p) [] [] pos) (fun _ H Q => Q (.ref Cl) none H) := by
  intro pins s σ H Q I h
  refine wpAny_Call_Name_kw (ld_glob I hg gC ?_ hdb)
  refine PySem.W.callWith_K0 I.kIn kC ?_
  show wpAny _ _ (call (.ref Cl) []) _ _ _
  obtain ⟨bm, N, nm, qn, bs, hdct, sn, sub, ab, col, dd, k0, k1, k2, k3, k5, mN, hC, hN, hni, T⟩ := exc_obj I.kIn q
  refine wpAny_call_exc_subT F T hC hN hni (fun h' e hm => ?_) (Nat.zero_le _)
  exact mk_of I hm r h (I.hok.gone hm.new)
theorem ds_raise0 {x : Str} (hx : ExcOk X.K X.mg x) (hg : Gl X x) (hc : X.calm = true) (tk : Takes X Wx) (hdb : (x == ("__debug__" : Str)) = false := by decide) :
    DS X C Ml rk Wx M M' (.Raise (some (.Call (.Name x p) [] [] p2)) none pos) (raiseW x) := by
  obtain ⟨Cl, m1, q1, q2, q3, q4⟩ := hx.ex
  refine ⟨_, ps_raise hc tk (pmk_own0 PySem.F.excBase_ValueError q1 m1 q2 (raises_own q3 q4) hg hdb), fun F H σ ρ s Qd Ed D_ hw _ _ _ _ hx => ?_⟩
  exact hx ⟨x, [], []⟩ (.ref Cl) none σ F H (Ex.refl F) s.base ⟨Cl, rfl, m1, .inl ⟨rfl, rfl, rfl⟩⟩ hw

/-! ### statements whose exceptions leave the names as they stand -/
def SX (G : Gx) (C : Cf) (Ml : List Md) (rk : Kd) (Wx : WX) (M M' : List Md) (ts : TS) (w : Env → W Fl) : Prop :=
  ∀ (F H : Hp) (σ : L2.St) (ρ : Env), SR G C M F H σ ρ → ∀ (Qd : Fl → Prop) (Ed : Xn → Prop) (D_ : Ends), w ρ Qd Ed →
    (∀ σ' ρ' F' H', Ex F F' → SR G C M' F' H' σ' ρ' → Qd (.next ρ') → D_.nx σ' H') →
    (∀ σ' ρ' F' H', Ex F F' → SR G C Ml F' H' σ' ρ' → Qd (.brk ρ') → D_.bk σ' H') →
    (∀ σ' ρ' F' H', Ex F F' → SR G C Ml F' H' σ' ρ' → Qd (.cont ρ') → D_.ct σ' H') →
    (∀ d v F' H', Ex F F' → SR0 C F' H' → KOk G C.H0 F' H' rk d v → Qd (.ret d) → D_.rt v H') →
    (∀ x cls dd F' H', Gr C.pl F H F' H' → IsX G F' H' x cls dd → Ed x → Wx cls dd σ H') → ts D_ σ H
structure DX (X : Cx) (C : Cf) (Ml : List Md) (rk : Kd) (Wx : WX) (M M' : List Md) (st : Stmt) (w : Env → W Fl) : Prop where
  ex : ∃ ts, PS X st ts ∧ SX (gx X C) C Ml rk Wx M M' ts w
structure DXs (X : Cx) (C : Cf) (Ml : List Md) (rk : Kd) (Wx : WX) (M M' : List Md) (st : List Stmt) (w : Env → W Fl) : Prop where
  ex : ∃ ts, PSs X st ts ∧ SX (gx X C) C Ml rk Wx M M' ts w
theorem dxs_one {st : Stmt} {w : Env → W Fl} (h1 : DX X C Ml rk Wx M M1 st w) : DXs X C Ml rk Wx M M1 [st] w := by
  obtain ⟨t, p, s⟩ := h1.ex
  exact ⟨_, pss_one p, s⟩
theorem dxs_nil : DXs X C Ml rk Wx M M [] nextW := ⟨_, pss_nil, fun F H σ ρ s Qd Ed D_ hw hn _ _ _ _ => hn σ ρ F H (Ex.refl F) s hw⟩
theorem dx_pass : DX X C Ml rk Wx M M (.Pass pos) nextW := ⟨_, ps_pass, fun F H σ ρ s Qd Ed D_ hw hn _ _ _ _ => hn σ ρ F H (Ex.refl F) s hw⟩
theorem dx_expr {e : Expr} {k : Kd} {we : Env → W D} (h : DE X C M Wx k e we) (hs : swapsWith e none pos.line X.env = pure false := by rfl) : DX X C Ml rk Wx M M (.Expr e pos) (exprW we) := by
  obtain ⟨te, p, s⟩ := h.ex
  refine ⟨_, ps_expr p hs, fun F H σ ρ r Qd Ed D_ hw hn _ _ _ hx => ?_⟩
  exact s F H σ ρ r _ Ed _ hw (fun d v F' H' g _ q => hn σ ρ F' H' g.ff (r.gr g) q) hx
theorem dx_ret {e : Expr} {we : Env → W D} (h : DE X C M Wx rk e we) : DX X C Ml rk Wx M M' (.Return (some e) pos) (retW we) := by
  obtain ⟨te, p, s⟩ := h.ex
  refine ⟨_, ps_ret p, fun F H σ ρ r Qd Ed D_ hw _ _ _ hr hx => ?_⟩
  exact s F H σ ρ r _ Ed _ hw (fun d v F' H' g k q => hr d v F' H' g.ff (r.base.gr g) (k.gr fun a ha => r.base.old ha) q) hx
theorem dx_set {i : Nat} {x : Str} {e : Expr} {we : Env → W D} {p2 : Pos} (hN : X.N.Nodup) (hi : X.N[i]? = some x) (hx : Loc X.env.scope x) (h : DE X C M Wx .v e we) (hlt : i < M.length) (hs : swapsWith e (some (.Name x p2)) pos.line X.env = pure false := by rfl)
    (hf : X.fn x = true ∨ X.env.scope.names.lookup x = some .local := by first | exact .inl rfl | exact .inr rfl | assumption) : DX X C Ml rk Wx M (M.set i .v) (.Assign [.Name x p2] e pos) (asgW i we) := by
  obtain ⟨te, p, s⟩ := h.ex
  refine ⟨_, ps_set hN hi hx p hs hf, fun F H σ ρ r Qd Ed D_ hw hn _ _ _ hx => ?_⟩
  exact s F H σ ρ r _ Ed _ hw (fun d v F' H' g k q => hn _ _ F' H' g.ff ((r.gr g).setV hlt k) q) hx
theorem dx_if {c : Expr} {a b : List Stmt} {wc : Env → W Bool} {w1 w2 : Env → W Fl} (hc : DT X C M Wx c wc) (ha : DXs X C Ml rk Wx M M1 a w1) (hb : DXs X C Ml rk Wx M M1 b w2) : DX X C Ml rk Wx M M1 (.If c a b pos) (iteW wc w1 w2) := by
  obtain ⟨tc, pc, sc⟩ := hc.ex
  obtain ⟨ta, pa, sa⟩ := ha.ex
  obtain ⟨tb, pb, sb⟩ := hb.ex
  refine ⟨_, ps_if pc pa pb, fun F H σ ρ s Qd Ed D_ hw hn hb' hcn hr hx => ?_⟩
  refine sc F H σ ρ s _ Ed _ hw (fun b F' H' g q => ?_) fun x cls dd F' H' g i q => hx x cls dd F' H' g i q
  cases b with
  | true => exact sa F' H' σ ρ (s.gr g) Qd Ed D_ q (fun σ2 ρ2 F2 H2 e2 => hn σ2 ρ2 F2 H2 (g.ff.trans e2)) (fun σ2 ρ2 F2 H2 e2 => hb' σ2 ρ2 F2 H2 (g.ff.trans e2)) (fun σ2 ρ2 F2 H2 e2 => hcn σ2 ρ2 F2 H2 (g.ff.trans e2)) (fun d v F2 H2 e2 => hr d v F2 H2 (g.ff.trans e2)) fun x cls dd F2 H2 g2 => hx x cls dd F2 H2 (g.trans g2)
  | false => exact sb F' H' σ ρ (s.gr g) Qd Ed D_ q (fun σ2 ρ2 F2 H2 e2 => hn σ2 ρ2 F2 H2 (g.ff.trans e2)) (fun σ2 ρ2 F2 H2 e2 => hb' σ2 ρ2 F2 H2 (g.ff.trans e2)) (fun σ2 ρ2 F2 H2 e2 => hcn σ2 ρ2 F2 H2 (g.ff.trans e2)) (fun d v F2 H2 e2 => hr d v F2 H2 (g.ff.trans e2)) fun x cls dd F2 H2 g2 => hx x cls dd F2 H2 (g.trans g2)
theorem dxsM {st : List Stmt} {w : Env → W Fl} (M2 : List Md) (h : DXs X C Ml rk Wx M M1 st w) (e : M1 = M2 := by rfl) : DXs X C Ml rk Wx M M2 st w := e ▸ h

/-! ### try: .. except C: .. -/
/-- a clause: its class, the classes of xs that it takes, its suite -/
structure Cl where
  h : Str
  ms : List Str
  s : Env → W Fl
def handW : List Cl → Xn → Env → W Fl
  | [], x, _, _, E => E x
  | c :: r, x, ρ, Q, E => if c.ms.contains x.c = true then c.s ρ Q noX else handW r x ρ Q E
def tryW (xs : List Str) (wb : Env → W Fl) (l : List Cl) : Env → W Fl := fun ρ Q E => wb ρ Q (fun x => xs.contains x.c = true ∧ handW l x ρ Q E)
/-- a block's own reading, said by what it means -/
def tsOf (G : Gx) (C : Cf) (Ml : List Md) (rk : Kd) (M M' : List Md) (w : Env → W Fl) (Wx : WX) : TS := fun D_ σ H => ∃ F ρ, SR G C M F H σ ρ ∧ ∃ (Qd : Fl → Prop) (Ed : Xn → Prop), w ρ Qd Ed ∧
    (∀ σ' ρ' F' H', Ex F F' → SR G C M' F' H' σ' ρ' → Qd (.next ρ') → D_.nx σ' H') ∧
    (∀ σ' ρ' F' H', Ex F F' → SR G C Ml F' H' σ' ρ' → Qd (.brk ρ') → D_.bk σ' H') ∧
    (∀ σ' ρ' F' H', Ex F F' → SR G C Ml F' H' σ' ρ' → Qd (.cont ρ') → D_.ct σ' H') ∧
    (∀ d v F' H', Ex F F' → SR0 C F' H' → KOk G C.H0 F' H' rk d v → Qd (.ret d) → D_.rt v H') ∧
    (∀ x cls dd F' H', Gr C.pl F H F' H' → IsX G F' H' x cls dd → Ed x → Wx cls dd σ H')
theorem DXs.psOf {st : List Stmt} {w : Env → W Fl} (h : DXs X C Ml rk Wx M M1 st w) : PSs X st (tsOf (gx X C) C Ml rk M M1 w Wx) := by
  obtain ⟨t, p, s⟩ := h.ex
  refine ⟨fun pins sh σ H D_ I hw => p.run pins sh σ H D_ I ?_⟩
  obtain ⟨F, ρ, r, Qd, Ed, hw, h1, h2, h3, h4, h5⟩ := hw
  exact s F H σ ρ r Qd Ed D_ hw h1 h2 h3 h4 h5
/-- a suite: no exception leaves it -/
def tuOf (G : Gx) (C : Cf) (Ml : List Md) (rk : Kd) (M M' : List Md) (w : Env → W Fl) : TS := fun D_ σ H => ∃ F ρ, SR G C M F H σ ρ ∧ ∃ (Qd : Fl → Prop), w ρ Qd noX ∧
    (∀ σ' ρ' F' H', Ex F F' → SR G C M' F' H' σ' ρ' → Qd (.next ρ') → D_.nx σ' H') ∧
    (∀ σ' ρ' F' H', Ex F F' → SR G C Ml F' H' σ' ρ' → Qd (.brk ρ') → D_.bk σ' H') ∧
    (∀ σ' ρ' F' H', Ex F F' → SR G C Ml F' H' σ' ρ' → Qd (.cont ρ') → D_.ct σ' H') ∧
    (∀ d v F' H', Ex F F' → SR0 C F' H' → KOk G C.H0 F' H' rk d v → Qd (.ret d) → D_.rt v H')
theorem DSs.puOf {st : List Stmt} {w : Env → W Fl} (h : DSs X C Ml rk Wx M M1 st w) : PSs X st (tuOf (gx X C) C Ml rk M M1 w) := by
  obtain ⟨t, p, s⟩ := h.ex
  refine ⟨fun pins sh σ H D_ I hw => p.run pins sh σ H D_ I ?_⟩
  obtain ⟨F, ρ, r, Qd, hw, h1, h2, h3, h4⟩ := hw
  exact s F H σ ρ r Qd noX D_ hw h1 h2 h3 h4 fun _ _ _ _ _ _ _ _ _ q => q.elim
/-- what the module knows of a clause's class, and of the classes that it takes -/
structure ClOk (K : PySem.W.Frag) (mg : Str → Option Value) (xs : List Str) (h : Str) (ms : List Str) : Prop where
  ex : ∃ Ch, mg h = some (.ref Ch) ∧ ∀ c ∈ xs, ∃ Cc, mg c = some (.ref Cc) ∧ PySem.W.exmOne K (.ref Cc) (.ref Ch) = some (ms.contains c)
inductive DHs (X : Cx) (C : Cf) (Ml : List Md) (rk : Kd) (M M1 : List Md) (xs : List Str) : List ExceptHandler → List Cl → Prop
  | nil : DHs X C Ml rk M M1 xs [] []
  | cons {h : Str} {ms : List Str} {w : Env → W Fl} {b₀ : Stmt} {suite : List Stmt} {np pos' : Pos} {hds : List ExceptHandler} {l : List Cl} (hg : Gl X h) (hd : (h == ("__debug__" : Str)) = false) (hc : ClOk X.K X.mg xs h ms)
      (hsu : ∀ (a : Addr) (oe : Obj) (pn : List (Addr × Obj)), DSs (X.suite a ((a, oe) :: pn)) C Ml rk WX0 M M1 (b₀ :: suite) w) (r : DHs X C Ml rk M M1 xs hds l) :
      DHs X C Ml rk M M1 xs (.ExceptHandler (some (.Name h np)) none (b₀ :: suite) pos' :: hds) (⟨h, ms, w⟩ :: l)
theorem DHs.hds {xs : List Str} {hds : List ExceptHandler} {l : List Cl} (h : DHs X C Ml rk M M1 xs hds l) : ∃ l', HdsOk X hds l' ∧ ∀ (F H : Hp) (σ : L2.St) (ρ : Env), SR (gx X C) C M F H σ ρ → ∀ (Qd : Fl → Prop) (Ed : Xn → Prop) (D_ : Ends) (x : Xn) (cls : Value) (dd : Option Addr), IsX (gx X C) F H x cls dd → xs.contains x.c = true → handW l x ρ Qd Ed →
    (∀ σ' ρ' F' H', Ex F F' → SR (gx X C) C M1 F' H' σ' ρ' → Qd (.next ρ') → D_.nx σ' H') →
    (∀ σ' ρ' F' H', Ex F F' → SR (gx X C) C Ml F' H' σ' ρ' → Qd (.brk ρ') → D_.bk σ' H') →
    (∀ σ' ρ' F' H', Ex F F' → SR (gx X C) C Ml F' H' σ' ρ' → Qd (.cont ρ') → D_.ct σ' H') →
    (∀ d v F' H', Ex F F' → SR0 C F' H' → KOk (gx X C) C.H0 F' H' rk d v → Qd (.ret d) → D_.rt v H') →
    (Ed x → Wx cls dd σ H) → wMany X.K Wx D_ l' cls dd σ H := by
  induction h with
  | nil => exact ⟨[], .nil, fun F H σ ρ s Qd Ed D_ x cls dd i _ hw _ _ _ _ hx => hx hw⟩
  | @cons h ms w b₀ suite np pos' hds l hg hd hc hsu r ih =>
    obtain ⟨l', ok, run⟩ := ih
    obtain ⟨Ch, m1, hcl⟩ := hc.ex
    refine ⟨(.ref Ch, fun _ _ _ => tuOf (gx X C) C Ml rk M M1 w) :: l', .cons ⟨hg, hd, .inl m1⟩ (fun a oe cls d pn _ _ => (hsu a oe pn).puOf) ok, fun F H σ ρ s Qd Ed D_ x cls dd i hxs hw h1 h2 h3 h4 hx => ?_⟩
    obtain ⟨Cc, rfl, m2, i2⟩ := id i
    obtain ⟨Cc', m3, e⟩ := hcl x.c (by simpa using hxs)
    have m2' : X.mg x.c = some (.ref Cc) := m2
    rw [m3] at m2'
    injection m2' with m2'
    injection m2' with m2'
    subst m2'
    refine ⟨_, e, fun hb a _ => ?_, fun hb => ?_⟩
    · unfold handW at hw
      rw [if_pos hb] at hw
      exact ⟨F, ρ, s, Qd, hw, h1, h2, h3, h4⟩
    · unfold handW at hw
      rw [if_neg (by rw [hb]; simp)] at hw
      exact run F H σ ρ s Qd Ed D_ x _ dd i hxs hw h1 h2 h3 h4 hx
theorem ds_try {xs : List Str} {body : List Stmt} {h₀ : ExceptHandler} {hds : List ExceptHandler} {l : List Cl} {wb : Env → W Fl} (hs : X.stack = X.env :: X.outer) (hf : X.env.frame = some X.env.locals) (tk : Takes X Wx)
    (hb : ∀ (W : WX) (pn : List (Addr × Obj)) (xe : Value → Shared → Prop), Takes (X.tr pn xe) W → PassesOwn (model X.prog X.w) X.A X.env xe → DXs (X.tr pn xe) C Ml rk W M M1 body wb)
    (hh : DHs X C Ml rk M M1 xs (h₀ :: hds) l) : DS X C Ml rk Wx M M1 (.Try body (h₀ :: hds) [] [] pos) (tryW xs wb l) := by
  obtain ⟨l', ok, run⟩ := hh.hds (Wx := Wx)
  refine ⟨_, ps_try_many (tb := fun W => tsOf (gx X C) C Ml rk M M1 wb W) hs hf tk (fun W pn xe t p => (hb W pn xe t p).psOf) ok, fun F H σ ρ s Qd Ed D_ hw hn hbk hcn hr hx => ?_⟩
  refine ⟨F, ρ, s, Qd, _, hw, hn, hbk, hcn, hr, fun x cls dd F' H' g i q => ?_⟩
  exact run F' H' σ ρ (s.gr g) Qd Ed D_ x cls dd i q.1 q.2 (fun σ' ρ' F2 H2 e => hn σ' ρ' F2 H2 (g.ff.trans e)) (fun σ' ρ' F2 H2 e => hbk σ' ρ' F2 H2 (g.ff.trans e)) (fun σ' ρ' F2 H2 e => hcn σ' ρ' F2 H2 (g.ff.trans e)) (fun d v F2 H2 e => hr d v F2 H2 (g.ff.trans e)) fun q => hx x cls dd σ F' H' g.ff (s.base.gr g) i q
end
section
variable {Q : D → Prop} {QF : Fl → Prop} {E : Xn → Prop} {ρ : Env}
theorem k_raise {c : Str} : raiseW c ρ QF E = E ⟨c, [], []⟩ := nr rfl
def kTry (xs : List Str) (l : List Cl) (ρ : Env) (QF : Fl → Prop) (E : Xn → Prop) : Xn → Prop := fun x => xs.contains x.c = true ∧ handW l x ρ QF E
theorem k_try {xs : List Str} {wb : Env → W Fl} {l : List Cl} : tryW xs wb l ρ QF E = wb ρ QF (kTry xs l ρ QF E) := nr rfl
theorem kTry_e {xs : List Str} {l : List Cl} {x : Xn} : kTry xs l ρ QF E x = (xs.contains x.c = true ∧ handW l x ρ QF E) := nr rfl
theorem handW_n {x : Xn} : handW [] x ρ QF E = E x := nr rfl
theorem handW_c {h : Str} {ms : List Str} {s : Env → W Fl} {r : List Cl} {x : Xn} : handW (⟨h, ms, s⟩ :: r) x ρ QF E = (if ms.contains x.c = true then s ρ QF noX else handW r x ρ QF E) := nr rfl
end
end DL

namespace DL
open PySem PySem.Spec PyProof.Rows L2

/-! ### e(a, ..), e one of some defs -/
def kCV1 (wa : Env → W (List D)) (ρ : Env) (Q : D → Prop) (E : Xn → Prop) : Option (List D → W D) → Prop | some m => appW m wa ρ Q E | none => False
def kCV0 (tab : List (Str × (List D → W D))) (wa : Env → W (List D)) (ρ : Env) (Q : D → Prop) (E : Xn → Prop) : D → Prop | .glo x => kCV1 wa ρ Q E (tab.lookup x) | _ => False
def callVW (tab : List (Str × (List D → W D))) (wf : Env → W D) (wa : Env → W (List D)) : Env → W D := fun ρ Q E => wf ρ (kCV0 tab wa ρ Q E) E
section
variable {X : Cx} {C : Cf} {Ml M M1 M' : List Md} {rk : Kd} {Wx : WX} {pos p p2 : Pos} {G : Gx}
/-- a def that can be called from here -/
structure FnV (X : Cx) (f : Addr) (sp : Sp) : Prop where
  ex : ∃ (k : Nat) (fd : FuncData) (ps : List Str), PySem.W.keepIn X.K (.ref f) = true ∧ Binds X.K fd ps [] ∧ Room k X.A ∧ FnOk X.prog X.w X.K X.mg X.base (L2.CX X.prog X.w) k f fd ps sp
def tCallV (X : Cx) (E : L2.St → XK) (tf : TE) (t : TA) : TE := fun σ H Q => tf σ H fun y H1 => ∃ f sp, y = V.ref f ∧ FnV X f sp ∧ t σ H1 fun vs H2 => sp vs H2 Q (E σ)
theorem pe_callV {fe e : Expr} {es : List Expr} {tf : TE} {t : TA} {E : L2.St → XK} (hf : PE X fe tf) (hx : ∀ σ, PassesAt (L2.CX X.prog X.w) X σ (E σ)) (ha : PA X (e :: es) t)
    (ht : eval (.Call fe (e :: es) [] pos) X.env = (do callWith pos (← eval fe X.env) [] (backTo pos (starEach (e :: es) X.env)) (backToKw pos (keywordEach [] X.env))) := by rfl)
    (he : starEach (e :: es) X.env = (false, eval e X.env) :: starEach es X.env := by rfl) (hpl : (backTo pos (starEach es X.env)).any (·.1) = false := by rfl) : PE X (.Call fe (e :: es) [] pos) (tCallV X E tf t) := by
  refine ⟨fun pins s σ H Q I h => ?_⟩
  refine Call_ (thn (hf.run pins s σ H _ I h) fun u s1 ⟨y, H1, I1, ry, f, sp, ey, V, q⟩ => ?_) ht
  subst ey
  obtain rfl : u = Value.ref f := ry
  obtain ⟨k, fd, ps, hk, hb, hr, F⟩ := V.ex
  refine PySem.W.callWith_K (h₀ := X.base) I1.ok.mod.kin hk (thn (ha.run pos pins s1 σ H1 _ I1 q) fun us s2 ⟨vs, H2, I2, r, q2⟩ => ⟨I2.kIn, ?_⟩) he hpl
  exact run_fnS F hr hb (hx σ) I2 r q2
/-- the defs of a table -/
inductive TabOk (X : Cx) (k : Nat) (ar : List Md) (rk : Kd) : List (Str × (List D → W D)) → Prop
  | nil : TabOk X k ar rk []
  | cons {x : Str} {m : List D → W D} {j : Nat} {r : List (Str × (List D → W D))} (F : FnD X.prog X.w X.K X.mg X.base x j ar rk m) (hj : j ≤ k) (t : TabOk X k ar rk r) : TabOk X k ar rk ((x, m) :: r)
theorem TabOk.at {k : Nat} {ar : List Md} {tab : List (Str × (List D → W D))} (h : TabOk X k ar rk tab) {x : Str} {m : List D → W D} (e : tab.lookup x = some m) : ∃ j, j ≤ k ∧ FnD X.prog X.w X.K X.mg X.base x j ar rk m := by
  induction h with
  | nil => cases e
  | @cons y m' j r F hj t ih =>
    rw [List.lookup_cons] at e
    cases hb : (x == y) with
    | true =>
      rw [hb] at e
      cases e
      rw [eq_of_beq hb]
      exact ⟨j, hj, F⟩
    | false =>
      rw [hb] at e
      exact ih e
theorem de_callV {k : Nat} {tab : List (Str × (List D → W D))} {ar : List Md} {fe e : Expr} {es : List Expr} {wf : Env → W D} {wa : Env → W (List D)} (hT : TabOk X k ar rk tab) (hr : Room k X.A) (tk : Takes X Wx) (hf : DE X C M Wx .v fe wf) (ha : DA X C M Wx ar (e :: es) wa)
    (ht : eval (.Call fe (e :: es) [] pos) X.env = (do callWith pos (← eval fe X.env) [] (backTo pos (starEach (e :: es) X.env)) (backToKw pos (keywordEach [] X.env))) := by rfl)
    (he : starEach (e :: es) X.env = (false, eval e X.env) :: starEach es X.env := by rfl) (hpl : (backTo pos (starEach es X.env)).any (·.1) = false := by rfl) :
    DE X C M Wx rk (.Call fe (e :: es) [] pos) (callVW tab wf wa) := by
  obtain ⟨tf, pf, sf⟩ := hf.ex
  obtain ⟨ta, pa, sa⟩ := ha.ex
  refine ⟨_, pe_callV pf (fun σ => passAt tk σ) pa ht he hpl, fun F H σ ρ s Qd Ed Q hw hq hx => ?_⟩
  refine sf F H σ ρ s _ Ed _ hw (fun d v F1 H1 g1 i1 hw2 => ?_) hx
  cases d with
  | glo x =>
    obtain ⟨a, rfl, m1⟩ := i1
    have hw3 : kCV1 wa ρ Qd Ed (tab.lookup x) := hw2
    cases el : tab.lookup x with
    | none => rw [el] at hw3; exact hw3.elim
    | some m =>
      rw [el] at hw3
      obtain ⟨j, hj, Fn⟩ := hT.at el
      obtain ⟨f, fd, ps, m2, hk, hb, Fk⟩ := Fn.ex
      have m1' : X.mg x = some (.ref a) := m1
      rw [m2] at m1'
      injection m1' with m1'
      injection m1' with m1'
      subst m1'
      refine ⟨f, _, rfl, ⟨j, fd, ps, hk, hb, hr.mono hj, Fk⟩, ?_⟩
      have h := se_call (G := gx X C) (Wx := Wx) (rk := rk) (m := m) rfl sa
      exact h F1 H1 σ ρ (s.gr g1) Qd Ed Q hw3 (fun d v F' H' g k q => hq d v F' H' (g1.trans g) (k.gr fun a ha => g1.back g1.pool a ha) q) fun x cls dd F' H' g i q => hx x cls dd F' H' (g1.trans g) i q
  | _ => cases hw2
def call0W (m : List D → W D) : Env → W D := fun _ Q _ => m [] Q noX
theorem de_call0F {k : Nat} {x : Str} {m : List D → W D} {p : Pos} (Fn : FnD X.prog X.w X.K X.mg X.base x k [] rk m) (hr : Room k X.A) (hg : Gl X x) (hdb : (x == ("__debug__" : Str)) = false := by decide) :
    DE X C M Wx rk (.Call (.Name x p) [] [] pos) (call0W m) := de_call0 Fn hr hg hdb
theorem k_call0 {m : List D → W D} {ρ : Env} {Q : D → Prop} {E : Xn → Prop} : call0W m ρ Q E = m [] Q noX := nr rfl
theorem de_gloF {x : Str} {j : Nat} {ar : List Md} {m : List D → W D} (Fn : FnD X.prog X.w X.K X.mg X.base x j ar rk m) (hg : Gl X x) (hd : (x == ("__debug__" : Str)) = false := by decide) : DE X C M Wx .v (.Name x pos) (cW (.glo x)) := by
  obtain ⟨f, fd, ps, hm, _⟩ := Fn.ex
  exact de_glo hg hm hd
theorem k_callV {tab : List (Str × (List D → W D))} {wf : Env → W D} {wa : Env → W (List D)} {ρ : Env} {Q : D → Prop} {E : Xn → Prop} : callVW tab wf wa ρ Q E = wf ρ (kCV0 tab wa ρ Q E) E := nr rfl
theorem kCV0_e {tab : List (Str × (List D → W D))} {wa : Env → W (List D)} {ρ : Env} {Q : D → Prop} {E : Xn → Prop} {x : Str} : kCV0 tab wa ρ Q E (.glo x) = kCV1 wa ρ Q E (tab.lookup x) := nr rfl
theorem kCV1_e {m : List D → W D} {wa : Env → W (List D)} {ρ : Env} {Q : D → Prop} {E : Xn → Prop} : kCV1 wa ρ Q E (some m) = wa ρ (kApp m Q E) E := nr rfl
end
theorem o_tupR {k : Kd} {xs : List D} {Q : D → Prop} {E : Xn → Prop} : tupOfW k (.lst xs) Q E = (upL k xs ∧ Q (.tup xs)) := nr rfl
theorem o_tupTR {k : Kd} {xs : List D} {Q : D → Prop} {E : Xn → Prop} : tupOfW k (.tup xs) Q E = (upOk k (.tup xs) ∧ Q (.tup xs)) := nr rfl
theorem o_sortT {xs : List D} {Q : D → Prop} {E : Xn → Prop} : sortW .v (.tup xs) Q E = (sortOk xs = true ∧ Q (.lst (sortD xs))) := by unfold sortW; simp
theorem o_sortTR {k : Kd} {xs : List D} {Q : D → Prop} {E : Xn → Prop} : sortW k (.tup xs) Q E = (upOk k (.tup xs) ∧ sortOk xs = true ∧ Q (.lst (sortD xs))) := nr rfl
theorem fld_ok {K : PySem.W.Frag} {mg : Str → Option Value} {c f : Str} {a b : Addr} (h : mg c = some (.ref a)) (h1 : Cls K a) (h2 : NoAttr K a f) (e : mg c = some (.ref b)) : Cls K b ∧ NoAttr K b f := by
  rw [h] at e
  injection e with e
  injection e with e
  subst e
  exact ⟨h1, h2⟩
theorem fld_no {K : PySem.W.Frag} {mg : Str → Option Value} {c f : Str} {b : Addr} (h : mg c = none) (e : mg c = some (.ref b)) : Cls K b ∧ NoAttr K b f := by
  rw [h] at e; cases e
end DL

namespace DL
open PySem PySem.Spec PyProof.Rows L2

/-! ### bits -/
def shlW : D → D → W D := fun x y Q _ => match x, y with | .int i, .int j => CPow i j ∧ Q (.int (i * 2 ^ j.toNat)) | _, _ => False
def shrW : D → D → W D := fun x y Q _ => match x, y with | .int i, .int j => 0 ≤ j ∧ Q (.int (i / 2 ^ j.toNat)) | _, _ => False
def bandW : D → D → W D := fun x y Q _ => match x, y with | .int i, .int j => Q (.int (Builtin.bitAnd i j)) | _, _ => False
def borW : D → D → W D := fun x y Q _ => match x, y with | .int i, .int j => Q (.int (Builtin.bitOr i j)) | _, _ => False
def invW : D → W D := fun x Q _ => match x with | .int i => Q (.int (Builtin.bitNot i)) | _ => False
def max2W : D → D → W D := fun x y Q _ => match x, y with | .int i, .int j => Q (.int (if j > i then j else i)) | _, _ => False
def min2W : D → D → W D := fun x y Q _ => match x, y with | .int i, .int j => Q (.int (if j < i then j else i)) | _, _ => False
section
variable {X : Cx} {C : Cf} {Ml M M1 M' : List Md} {rk : Kd} {Wx : WX} {pos p p2 : Pos} {G : Gx}
theorem ops_shl {k1 k2 : Kd} : OpS G k1 k2 .v (rI CPow fun i j => .int (i * 2 ^ j.toNat)) shlW := by
  intro F H fh po x y v u hx hy Qd Ed Q hw hq
  cases x <;> try exact hw.elim
  cases y <;> try exact hw.elim
  exact ⟨_, _, hx.int, hy.int, hw.1, fin0 (.inl rfl) fh po hq (d := .int _) (fun _ => rfl) hw.2⟩
theorem ops_shr {k1 k2 : Kd} : OpS G k1 k2 .v (rI (fun _ j => 0 ≤ j) fun i j => .int (i / 2 ^ j.toNat)) shrW := by
  intro F H fh po x y v u hx hy Qd Ed Q hw hq
  cases x <;> try exact hw.elim
  cases y <;> try exact hw.elim
  exact ⟨_, _, hx.int, hy.int, hw.1, fin0 (.inl rfl) fh po hq (d := .int _) (fun _ => rfl) hw.2⟩
theorem ops_band {k1 k2 : Kd} : OpS G k1 k2 .v (rI0 fun i j => .int (Builtin.bitAnd i j)) bandW := by
  intro F H fh po x y v u hx hy Qd Ed Q hw hq
  cases x <;> try exact hw.elim
  cases y <;> try exact hw.elim
  exact ⟨_, _, hx.int, hy.int, fin0 (.inl rfl) fh po hq (d := .int _) (fun _ => rfl) hw⟩
theorem ops_bor {k1 k2 : Kd} : OpS G k1 k2 .v (rI0 fun i j => .int (Builtin.bitOr i j)) borW := by
  intro F H fh po x y v u hx hy Qd Ed Q hw hq
  cases x <;> try exact hw.elim
  cases y <;> try exact hw.elim
  exact ⟨_, _, hx.int, hy.int, fin0 (.inl rfl) fh po hq (d := .int _) (fun _ => rfl) hw⟩
theorem de_inv {a : Expr} {wa : Env → W D} (ha : DE X C M Wx .v a wa) : DE X C M Wx .v (.UnaryOp .Invert a pos) (unW invW wa) := by
  obtain ⟨te, p, s⟩ := ha.ex
  refine ⟨_, pe_un un_inv p, fun F H σ ρ r Qd Ed Q hw hq hx => ?_⟩
  refine s F H σ ρ r _ Ed _ hw (fun d v F1 H1 g1 i1 hw2 => ?_) hx
  cases d <;> try exact hw2.elim
  exact ⟨_, i1, hq (.int _) _ F1 H1 g1 rfl hw2⟩
/-- x op= e, of whole numbers -/
theorem ds_augOp {op : Operator} {r2 : R2} {f : D → D → W D} {i : Nat} {x : Str} {e : Expr} {we : Env → W D} (ho : OpR X (inplaceOp op) r2) (hs : OpS (gx X C) .v .v .v r2 f) (hN : X.N.Nodup) (hi : X.N[i]? = some x) (hx : Loc X.env.scope x) (h : DE X C M Wx .v e we) (hM : M[i]? = some .v)
    (hf : X.fn x = true ∨ X.env.scope.names.lookup x = some .local := by first | exact .inl rfl | exact .inr rfl | assumption) : DS X C Ml rk Wx M M (.AugAssign (.Name x p2) op e pos) (augW i f we) := by
  obtain ⟨te, p, s⟩ := h.ex
  refine ⟨_, ps_aug (ti := r2) hN hi hx p (fun pins s σ H x y v u Q I r1 r2' h => ho pins s σ H x y v u Q I r1 r2' h) hf, fun F H σ ρ r Qd Ed D_ hw hn _ _ _ hx => ?_⟩
  unfold augW at hw
  split at hw
  · rename_i d0 e0
    obtain ⟨m, v, fp, e1, e2, h1, _⟩ := r.get e0
    rw [hM] at e1; cases e1
    refine ⟨v, e2, ?_⟩
    refine s F H σ ρ r _ Ed _ hw (fun d u F' H' g k q => ?_) fun x cls dd F' H' g i q => hx x cls dd σ F' H' g.ff (r.base.gr g) i q
    refine hs F' H' g.fh g.pool d0 d v u (Is.mono g.ff _ _ h1.1) k _ Ed _ q fun d3 z F3 H3 g3 k3 q3 => ?_
    have s2 := (r.gr (g.trans g3)).setV (i := i) (d := d3) (v := z) (List.getElem?_eq_some_iff.mp hM).1 k3
    rw [set_v hM] at s2
    exact hn _ _ F3 H3 (g.trans g3).ff s2 q3
  · cases hw
/-! ### max(a, b), min(a, b) -/
theorem de_b2 {id : String} {x : Str} {e1 e2 : Expr} {k1 k2 k : Kd} {r : List V → Hp → VK → Prop} {f : D → D → W D} {w1 w2 : Env → W D} (hc : CallR X (.builtin id) r) (hs : OpS (gx X C) k1 k2 k (fun a b H Q => r [a, b] H Q) f) (hg : Gl X x) (hm : X.mg x = none) (he1 : DE X C M Wx k1 e1 w1) (he2 : DE X C M Wx k2 e2 w2)
    (h1 : k1.isN = false := by rfl) (h2 : k2.isN = false := by rfl) (hv : bootBuiltins x = some (.builtin id) := by decide +kernel) (hn : x ≠ "__name__" := by decide) (hdb : (x == ("__debug__" : Str)) = false := by decide)
    (hst : starEach [e1, e2] X.env = (false, eval e1 X.env) :: starEach [e2] X.env := by rfl) (hst2 : starEach [e2] X.env = (false, eval e2 X.env) :: starEach [] X.env := by rfl) : DE X C M Wx k (.Call (.Name x p) [e1, e2] [] pos) (binW f w1 w2) := by
  obtain ⟨ta, pa, sa⟩ := he1.ex
  obtain ⟨tb, pb, sb⟩ := he2.ex
  refine ⟨_, pe_callB hc hg hm hv (pa_cons pa (pa_cons pb pa_nil hst2) hst) hn hdb hst (by rw [hst2]; rfl), fun F H σ ρ s Qd Ed Q hw hq hx => ?_⟩
  refine sa F H σ ρ s _ Ed _ hw (fun d v F1 H1 g1 i1 hw2 => ?_) hx
  refine sb F1 H1 σ ρ (s.gr g1) _ Ed _ hw2 (fun d2 v2 F2 H2 g2 i2 hw3 => ?_) fun x cls dd F2 H2 g2 => hx x cls dd F2 H2 (g1.trans g2)
  refine hs F2 H2 g2.fh g2.pool d d2 v v2 ((KIn.of h1 i1 : KIn (gx X C) F1 H1 k1 d v).gr g2) (KIn.of h2 i2) Qd Ed Q hw3 fun d3 z F3 H3 g3 k3 q => ?_
  exact hq d3 z F3 H3 ((g1.trans g2).trans g3) (k3.gr fun a ha => (g1.trans g2).back g2.pool a ha) q
theorem ops_max2 {k1 k2 : Kd} : OpS G k1 k2 .v (fun a b H Q => ∃ i j, [a, b] = [V.int i, .int j] ∧ Q (.int (if j > i then j else i)) H) max2W := by
  intro F H fh po x y v u hx hy Qd Ed Q hw hq
  cases x <;> try exact hw.elim
  cases y <;> try exact hw.elim
  exact ⟨_, _, by rw [hx.int, hy.int], fin0 (.inl rfl) fh po hq (d := .int _) (fun _ => rfl) hw⟩
theorem ops_min2 {k1 k2 : Kd} : OpS G k1 k2 .v (fun a b H Q => ∃ i j, [a, b] = [V.int i, .int j] ∧ Q (.int (if j < i then j else i)) H) min2W := by
  intro F H fh po x y v u hx hy Qd Ed Q hw hq
  cases x <;> try exact hw.elim
  cases y <;> try exact hw.elim
  exact ⟨_, _, by rw [hx.int, hy.int], fin0 (.inl rfl) fh po hq (d := .int _) (fun _ => rfl) hw⟩
/-! ### isinstance(x, (S, T)) -/
def isi2W (S T : String) : D → W D := fun x Q _ => match tyN x with | some a => Q (.bl (subT a S || subT a T)) | none => False
theorem de_isi2 {S T : String} {x tx ty : Str} {k : Nat} {p3 p4 : Pos} {e : Expr} {k1 : Kd} {we : Env → W D} (hS : SubOk S) (hT : SubOk T) (hg : Gl X x) (hm : X.mg x = none) (hgx : Gl X tx) (hmx : X.mg tx = none) (hgy : Gl X ty) (hmy : X.mg ty = none) (he : DE X C M Wx k1 e we)
    (h1 : k1.isN = false := by rfl) (hv : bootBuiltins x = some (.builtin "isinstance") := by decide +kernel) (hvx : bootBuiltins tx = some (.type S) := by decide +kernel) (hvy : bootBuiltins ty = some (.type T) := by decide +kernel) (hn : x ≠ "__name__" := by decide) (hdb : (x == ("__debug__" : Str)) = false := by decide)
    (hnx : tx ≠ "__name__" := by decide) (hdx : (tx == ("__debug__" : Str)) = false := by decide) (hny : ty ≠ "__name__" := by decide) (hdy : (ty == ("__debug__" : Str)) = false := by decide)
    (hst : starEach [e, .Tuple [.Name tx p2, .Name ty p3] k p4] X.env = (false, eval e X.env) :: starEach [.Tuple [.Name tx p2, .Name ty p3] k p4] X.env := by rfl) :
    DE X C M Wx .v (.Call (.Name x p) [e, .Tuple [.Name tx p2, .Name ty p3] k p4] [] pos) (unW (isi2W S T) we) := by
  obtain ⟨te, pe, se⟩ := he.ex
  have pt : PE X (.Tuple [.Name tx p2, .Name ty p3] k p4) _ := pe_tup (pa_cons (pe_bltn hgx hmx hvx (v := .ty S) rfl hnx hdx) (pa_cons (pe_bltn hgy hmy hvy (v := .ty T) rfl hny hdy) pa_nil))
  refine ⟨_, pe_callB (call_isiT) hg hm hv (pa_cons pe (pa_cons pt pa_nil) hst) hn hdb hst rfl, fun F H σ ρ s Qd Ed Q hw hq hx => ?_⟩
  refine se F H σ ρ s _ Ed _ hw (fun d v F1 H1 g1 i1 hw2 => ?_) hx
  unfold isi2W at hw2
  split at hw2
  · rename_i a e2
    have hz : sizeLine = 16777216 := sizeLine_eq
    refine ⟨by show (2 : Nat) ≤ sizeLine; omega, fun tp htp => ?_⟩
    have g2 := Gr.new (o := .tup [V.ty S, V.ty T]) g1.fh g1.pool htp
    have i2 := Is.mono (Ex.new (o := HO.tup [V.ty S, V.ty T]) htp) d v ((KIn.of h1 i1 : KIn (gx X C) F1 H1 k1 d v).at (G := gx X C) g1.fh)
    refine ⟨v, tp, [.ty S, .ty T], .type a, [.type S, .type T], subT a S || subT a T, rfl, upd_same, .cons (.ty S) (.cons (.ty T) .nil), is_ty i2 e2, ?_, hq (.bl _) _ _ _ (g1.trans g2) rfl hw2⟩
    refine kitAny_cons (kit_ty (hS d a e2)) (fun hb => ?_) fun hb => by rw [hb]; rfl
    rw [hb]
    refine kitAny_cons (kit_ty (hT d a e2)) (fun hb => by rw [hb]; rfl) fun hb => by rw [hb]; rfl
  · cases hw2
end
section
variable {Q : D → Prop} {E : Xn → Prop}
theorem o_shl {a b : Int} : shlW (.int a) (.int b) Q E = (CPow a b ∧ Q (.int (a * 2 ^ b.toNat))) := nr rfl
theorem o_shr {a b : Int} : shrW (.int a) (.int b) Q E = (0 ≤ b ∧ Q (.int (a / 2 ^ b.toNat))) := nr rfl
theorem o_band {a b : Int} : bandW (.int a) (.int b) Q E = Q (.int (Builtin.bitAnd a b)) := nr rfl
theorem o_bor {a b : Int} : borW (.int a) (.int b) Q E = Q (.int (Builtin.bitOr a b)) := nr rfl
theorem o_inv {a : Int} : invW (.int a) Q E = Q (.int (Builtin.bitNot a)) := nr rfl
theorem o_max2 {a b : Int} : max2W (.int a) (.int b) Q E = Q (.int (if b > a then b else a)) := nr rfl
theorem o_min2 {a b : Int} : min2W (.int a) (.int b) Q E = Q (.int (if b < a then b else a)) := nr rfl
theorem k_isi2 {S T : String} {x : D} : isi2W S T x Q E = optK (fun a => Q (.bl (subT a S || subT a T))) (tyN x) := by unfold isi2W optK; cases tyN x <;> rfl
end
end DL

namespace DL
open PySem PySem.Spec PyProof.Rows L2

/-! ### a range, held -/
def rngV1W : D → W D := fun x Q _ => match x with | .int j => Q (.rng 0 j) | _ => False
def rngV2W : D → D → W D := fun x y Q _ => match x, y with | .int i, .int j => Q (.rng i j) | _, _ => False
def rngHI (we : Env → W D) : Env → W (List D) := fun ρ Q E => we ρ (fun x => match x with | .rng i j => (-(2 ^ 62) ≤ i ∧ i < 2 ^ 62 ∧ -(2 ^ 62) ≤ j ∧ j < 2 ^ 62 ∧ j - i ≤ 16777216) ∧ Q (rngD i (j - i).toNat) | _ => False) E
section
variable {X : Cx} {C : Cf} {Ml M M1 M' : List Md} {rk : Kd} {Wx : WX} {pos p p2 : Pos} {G : Gx} {tg : Expr}
theorem cr_range1 : CallR X (.type "range") (fun vs H Q => ∃ j, vs = [V.int j] ∧ ∀ p, H p = none → Q (.ref p) (upd H p (.rng 0 j))) := by
  intro pins s σ H vs us Q I r h
  obtain ⟨j, rfl, q⟩ := h
  obtain ⟨u1, rfl, rj⟩ := vals1 r
  obtain ⟨t, rfl⟩ := rj
  refine call_range_1 ⟨.ref s.heap.objs.size, upd H s.heap.objs.size (.rng 0 j), I.laid (t' := s.toks + 1 + 1) (fun b o e => Heap.get?_push_of_some _ e) (Nat.le_refl _) ?_, rfl, q _ (I.hok.fresh (Nat.le_refl _))⟩
  exact ⟨s.toks, t, s.toks + 1, Heap.get?_push_size _ rfl⟩
theorem uns_rng1 : UnS G .v .v (fun v H Q => ∃ j, [v] = [V.int j] ∧ ∀ p, H p = none → Q (.ref p) (upd H p (.rng 0 j))) rngV1W := by
  intro F H fh po x v hx Qd Ed Q hw hq
  cases x <;> try exact hw.elim
  rename_i j
  refine ⟨j, by rw [hx.int], fun p hp => ?_⟩
  exact hq (.rng 0 j) (.ref p) _ _ (Gr.new (o := .rng 0 j) fh po hp) ⟨p, rfl, upd_same⟩ hw
theorem ops_rng2 : OpS G .v .v .v (fun v u H Q => ∃ i j, [v, u] = [V.int i, V.int j] ∧ ∀ p, H p = none → Q (.ref p) (upd H p (.rng i j))) rngV2W := by
  intro F H fh po x y v u hx hy Qd Ed Q hw hq
  cases x <;> try exact hw.elim
  cases y <;> try exact hw.elim
  rename_i i j
  refine ⟨i, j, by rw [hx.int, hy.int], fun p hp => ?_⟩
  exact hq (.rng i j) (.ref p) _ _ (Gr.new (o := .rng i j) fh po hp) ⟨p, rfl, upd_same⟩ hw
/-- T(a, b), of a type -/
theorem de_t2 {id : String} {x : Str} {e1 e2 : Expr} {k1 k2 k : Kd} {r : List V → Hp → VK → Prop} {f : D → D → W D} {w1 w2 : Env → W D} (hc : CallR X (.type id) r) (hs : OpS (gx X C) k1 k2 k (fun a b H Q => r [a, b] H Q) f) (hg : Gl X x) (hm : X.mg x = none) (he1 : DE X C M Wx k1 e1 w1) (he2 : DE X C M Wx k2 e2 w2)
    (h1 : k1.isN = false := by rfl) (h2 : k2.isN = false := by rfl) (hv : bootBuiltins x = some (.type id) := by decide +kernel) (hn : x ≠ "__name__" := by decide) (hdb : (x == ("__debug__" : Str)) = false := by decide)
    (hst : starEach [e1, e2] X.env = (false, eval e1 X.env) :: starEach [e2] X.env := by rfl) (hst2 : starEach [e2] X.env = (false, eval e2 X.env) :: starEach [] X.env := by rfl) : DE X C M Wx k (.Call (.Name x p) [e1, e2] [] pos) (binW f w1 w2) := by
  obtain ⟨ta, pa, sa⟩ := he1.ex
  obtain ⟨tb, pb, sb⟩ := he2.ex
  refine ⟨_, pe_callTy hc hg hm hv (pa_cons pa (pa_cons pb pa_nil hst2) hst) hn hdb hst (by rw [hst2]; rfl), fun F H σ ρ s Qd Ed Q hw hq hx => ?_⟩
  refine sa F H σ ρ s _ Ed _ hw (fun d v F1 H1 g1 i1 hw2 => ?_) hx
  refine sb F1 H1 σ ρ (s.gr g1) _ Ed _ hw2 (fun d2 v2 F2 H2 g2 i2 hw3 => ?_) fun x cls dd F2 H2 g2 => hx x cls dd F2 H2 (g1.trans g2)
  refine hs F2 H2 g2.fh g2.pool d d2 v v2 ((KIn.of h1 i1 : KIn (gx X C) F1 H1 k1 d v).gr g2) (KIn.of h2 i2) Qd Ed Q hw3 fun d3 z F3 H3 g3 k3 q => ?_
  exact hq d3 z F3 H3 ((g1.trans g2).trans g3) (k3.gr fun a ha => (g1.trans g2).back g2.pool a ha) q
/-- for .. in r, r a range held -/
def iRngH (te : TE) : TI := fun σ H R => te σ H fun x H1 => ∃ a lo hi, x = .ref a ∧ H1 a = some (.rng lo hi) ∧ (-(2 ^ 62) ≤ lo ∧ lo < 2 ^ 62 ∧ -(2 ^ 62) ≤ hi ∧ hi < 2 ^ 62) ∧ R (Itr lo (hi - lo).toNat) H1
theorem pi_rngH {e : Expr} {te : TE} (he : PE X e te) : PI X tg e (iRngH te) := by
  refine ⟨fun pins s σ H R I h => ?_⟩
  refine thn (he.run pins s σ H _ I h) fun u s1 ⟨v, H1, I1, r1, q1⟩ => ?_
  obtain ⟨a, lo, hi, rfl, ha, ⟨h1, h2, h3, h4⟩, q⟩ := q1
  cases r1
  obtain ⟨t, u, v, ho⟩ := I1.hok a _ ha
  refine wpAny_pyIter_range (show IsRange s1.heap a lo hi 1 t u v from ho) (small_one h1 h2 h3 h4) ?_
  refine ⟨s1.heap.objs.size, [s1.heap.objs.size], _, _, H1, rfl, I1.kept (t' := s1.toks) fun b o e => Heap.get?_push_of_some _ e, turn_range _ lo (hi - lo).toNat, ?_, fun b hb => ?_, q⟩
  · have e1 : lo + ((0 : Nat) : Int) * 1 = lo := by simp
    have e2 : (((hi - lo).toNat : Nat) : Int) - ((0 : Nat) : Int) = Builtin.Range.rangeSize lo hi 1 := by rw [rangeSize_one]; split <;> omega
    show IsRangeIter _ _ (lo + ((0 : Nat) : Int) * 1) ((((hi - lo).toNat : Nat) : Int) - ((0 : Nat) : Int)) 1
    rw [e1, e2]
    exact Heap.get?_push_size _ rfl
  · have e : b = s1.heap.objs.size := by simpa using hb
    subst e
    exact I1.fpOk (Nat.le_refl _) (I1.hok.fresh (Nat.le_refl _))
theorem di_rngH {e : Expr} {we : Env → W D} (h : DE X C M Wx .v e we) : DI X C M Wx .v tg e (rngHI we) := by
  obtain ⟨te, pe, se⟩ := h.ex
  refine ⟨_, pi_rngH pe, fun F H σ ρ s Qd Ed R hw hq hx => ?_⟩
  refine se F H σ ρ s _ Ed _ hw (fun d v F1 H1 g1 i1 hw2 => ?_) hx
  cases d <;> try exact hw2.elim
  rename_i i j
  obtain ⟨⟨b1, b2, b3, b4, b5⟩, hw3⟩ := hw2
  obtain ⟨a, rfl, ha⟩ := i1
  have hs : sizeLine = 16777216 := sizeLine_eq
  exact ⟨a, i, j, rfl, (hid_some (g1.fh _ _ ha)).2, ⟨b1, b2, b3, b4⟩, hq _ F1 H1 _ g1 src_rng (fun _ => by unfold rngD; simp; omega) hw3⟩

/-! ### min(xs), max(xs), xs a list of alike data -/
def minDD (x : D) (xs : List D) : D := xs.foldl (fun a y => if PySem.W.dataLt (py y) (py a) then y else a) x
def maxDD (x : D) (xs : List D) : D := xs.foldl (fun a y => if PySem.W.dataLt (py a) (py y) then y else a) x
def minLW (k : Kd) : D → W D := fun x Q _ => match x with | .lst (x :: xs) => upL k (x :: xs) ∧ sortOk (x :: xs) = true ∧ Q (minDD x xs) | _ => False
def maxLW (k : Kd) : D → W D := fun x Q _ => match x with | .lst (x :: xs) => upL k (x :: xs) ∧ sortOk (x :: xs) = true ∧ Q (maxDD x xs) | _ => False
def rBest (lt : PyData → PyData → Bool) (K : PySem.W.Frag) : List V → Hp → VK → Prop := fun xs H Q => ∃ (a : Addr) (ps : List (D × V)), xs = [.ref a] ∧ SqL K H a (ps.map Prod.snd) ∧ (∀ p ∈ ps, Dp K H p.2 (py p.1)) ∧ sortOk (ps.map Prod.fst) = true ∧ 0 < ps.length ∧
  ∀ q, ps[argBest (fun i j => lt ((ps.map fun p => py p.1).getD i .none) ((ps.map fun p => py p.1).getD j .none)) (ps.length - 1)]? = some q → Q q.2 H
theorem dpAll_of {K : PySem.W.Frag} {H : Hp} : ∀ {ps : List (D × V)}, (∀ p ∈ ps, Dp K H p.2 (py p.1)) → DpAll K H (ps.map Prod.snd) (ps.map fun p => py p.1)
  | [], _ => .nil
  | p :: ps, h => .cons (h p (by simp)) (dpAll_of fun q hq => h q (by simp [hq]))
theorem sortOk_alikeAll {xs : List D} (h : sortOk xs = true) : PySem.W.AlikeAll (xs.map py) := by
  refine ⟨fun x hx y hy => sortOk_alike h x hx y hy, fun x hx e => ?_⟩
  obtain ⟨d, hd, rfl⟩ := List.mem_map.mp hx
  simp only [sortOk, Bool.and_eq_true, Bool.or_eq_true] at h
  rcases h.2 with h2 | h2
  · have := List.all_eq_true.mp h2 d hd
    cases d <;> simp [isTup, py] at this e
  · have := List.all_eq_true.mp h2 d hd
    cases d <;> simp [isAtom, py] at this e
theorem depth_all : ∀ {xs : List D}, (∀ x ∈ xs, plain 50 x = true) → PyData.depthAll (xs.map py) ≤ 50
  | [], _ => by simp [PyData.depthAll]
  | x :: xs, h => by
    have h1 := (plain_lay 50 x (h x (by simp))).2
    have h2 := depth_all (xs := xs) fun y hy => h y (by simp [hy])
    simp only [List.map_cons, PyData.depthAll]
    omega
theorem best_get {ps : List (D × V)} {its : List Value} (rv : Vals (ps.map Prod.snd) its) {n : Nat} {v : Value} (h : its.toArray[n]? = some v) : ∃ q, ps[n]? = some q ∧ RelV q.2 v := by
  have h2 : its[n]? = some v := by simpa using h
  have hl := rv.length
  rw [List.length_map] at hl
  have hn : n < ps.length := by rw [hl]; exact (List.getElem?_eq_some_iff.mp h2).1
  refine ⟨ps[n], List.getElem?_eq_getElem hn, ?_⟩
  obtain ⟨u, hu, ru⟩ := rv.get (i := n) (x := ps[n].2) (by rw [List.getElem?_map, List.getElem?_eq_getElem hn]; rfl)
  rw [hu] at h2
  cases h2
  exact ru
theorem cr_minD (hc : X.calm = true) (hu : X.A.units + 62 < cLine) : CallR X (.builtin "min") (rBest PySem.W.dataLt X.K) := by
  intro pins s σ H xs us Q I r h
  obtain ⟨a, ps, rfl, hs, hdp, ok, hne, q⟩ := h
  obtain ⟨its, rv, hl, hz⟩ := I.list hs
  rw [Vals.ref1 r]
  obtain ⟨as, hr⟩ := Dp.readsAll I _ _ its (dpAll_of hdp) rv
  have hr : ReadsAll s.heap its.toArray.toList (ps.map fun p => py p.1) as := hr
  have hal : PySem.W.AlikeAll (ps.map fun p : D × V => py p.1) := by have := sortOk_alikeAll ok; rw [List.map_map] at this; exact this
  have hdep : PyData.depthAll (ps.map fun p : D × V => py p.1) ≤ 50 := by have := depth_all (sortOk_plain ok); rw [List.map_map] at this; exact this
  have hn : its.toArray.size = ps.length := by rw [List.size_toArray, ← rv.length, List.length_map]
  refine PySem.call_min_walkH (PySem.W.iter_listW (A := X.A.in1) (I.ok.hd hc) hl.isList fun s₂ e W st hfp hw hk => ?_)
  refine ⟨_, _, _, _, _, _, _, s.heap, _, rfl, W, st, hfp, by omega, hw, hk, PySem.W.cmpIn_lt (A := X.A.in1) hr hal (by show X.A.units + 1 + _ < _; omega), fun v s' hP m => ?_⟩
  obtain ⟨h', tk, rfl, hk'⟩ := PySem.W.moved_old e rfl m
  rw [hn] at hP
  obtain ⟨p, hp, rp⟩ := best_get rv hP
  exact ⟨p.2, H, I.kept hk', rp, q p hp⟩
theorem cr_maxD (hc : X.calm = true) (hu : X.A.units + 62 < cLine) : CallR X (.builtin "max") (rBest (fun a b => PySem.W.dataLt b a) X.K) := by
  intro pins s σ H xs us Q I r h
  obtain ⟨a, ps, rfl, hs, hdp, ok, hne, q⟩ := h
  obtain ⟨its, rv, hl, hz⟩ := I.list hs
  rw [Vals.ref1 r]
  obtain ⟨as, hr⟩ := Dp.readsAll I _ _ its (dpAll_of hdp) rv
  have hr : ReadsAll s.heap its.toArray.toList (ps.map fun p => py p.1) as := hr
  have hal : PySem.W.AlikeAll (ps.map fun p : D × V => py p.1) := by have := sortOk_alikeAll ok; rw [List.map_map] at this; exact this
  have hdep : PyData.depthAll (ps.map fun p : D × V => py p.1) ≤ 50 := by have := depth_all (sortOk_plain ok); rw [List.map_map] at this; exact this
  have hn : its.toArray.size = ps.length := by rw [List.size_toArray, ← rv.length, List.length_map]
  refine PySem.call_max_walkH (PySem.W.iter_listW (A := X.A.in1) (I.ok.hd hc) hl.isList fun s₂ e W st hfp hw hk => ?_)
  refine ⟨_, _, _, _, _, _, _, s.heap, _, rfl, W, st, hfp, by omega, hw, hk, PySem.W.cmpIn_gt (A := X.A.in1) hr hal (by show X.A.units + 1 + _ < _; omega), fun v s' hP m => ?_⟩
  obtain ⟨h', tk, rfl, hk'⟩ := PySem.W.moved_old e rfl m
  rw [hn] at hP
  obtain ⟨p, hp, rp⟩ := best_get rv hP
  exact ⟨p.2, H, I.kept hk', rp, q p hp⟩
theorem best_data {lt : PyData → PyData → Bool} {x : D} {xs : List D} {vs : List V} {v : V} {q : D × V}
    (h : (((x, v) :: xs.zip vs))[argBest (fun i j => lt ((((x, v) :: xs.zip vs).map fun p => py p.1).getD i .none) ((((x, v) :: xs.zip vs).map fun p => py p.1).getD j .none)) (((x, v) :: xs.zip vs).length - 1)]? = some q) (e : (xs.zip vs).map Prod.fst = xs) :
    q.1 = xs.foldl (fun a y => if lt (py y) (py a) then y else a) x := by
  have hp : ∀ i, (((x, v) :: xs.zip vs).map fun p => py p.1).getD i .none = py ((x :: xs).getD i .non) := fun i => by
    have e1 : (((x, v) :: xs.zip vs).map fun p => py p.1) = (x :: xs).map py := by
      rw [List.map_cons, List.map_cons]
      congr 1
      rw [← e, List.map_map, e]
      rfl
    rw [e1, List.getD_eq_getElem?_getD, List.getElem?_map, List.getD_eq_getElem?_getD]
    cases (x :: xs)[i]? <;> rfl
  have hl : (xs.zip vs).length = xs.length := by rw [← e, List.length_map, e]
  have h2 := (PySem.W.argBest_fold (fun a b : D => lt (py a) (py b)) D.non x xs xs.length (Nat.le_refl _)).2
  rw [List.take_length] at h2
  rw [← h2]
  have hf : (fun i j => lt ((((x, v) :: xs.zip vs).map fun p => py p.1).getD i .none) ((((x, v) :: xs.zip vs).map fun p => py p.1).getD j .none)) = fun i j => lt (py ((x :: xs).getD i .non)) (py ((x :: xs).getD j .non)) := by
    funext i j
    rw [hp, hp]
  rw [hf, List.length_cons, Nat.add_sub_cancel, hl] at h
  have e3 : ((x, v) :: xs.zip vs).map Prod.fst = x :: xs := by rw [List.map_cons, e]
  have h4 : (x :: xs)[argBest (fun i j => lt (py ((x :: xs).getD i .non)) (py ((x :: xs).getD j .non))) xs.length]? = some q.1 := by
    rw [← e3, List.getElem?_map, e3, h]
    rfl
  rw [List.getD_eq_getElem?_getD, h4]
  rfl
theorem uns_best {lt : PyData → PyData → Bool} {f : D → List D → D} (hf : ∀ x xs, f x xs = xs.foldl (fun a y => if lt (py y) (py a) then y else a) x) {k1 : Kd} : UnS G k1 .v (fun v H Q => rBest lt G.K [v] H Q) (fun x Q _ => match x with | .lst (x :: xs) => upL k1 (x :: xs) ∧ sortOk (x :: xs) = true ∧ Q (f x xs) | _ => False) := by
  intro F H fh po x v hx Qd Ed Q hw hq
  cases x <;> try exact hw.elim
  rename_i ds
  cases ds with
  | nil => exact hw.elim
  | cons x xs =>
    obtain ⟨hup, ok, hw⟩ := hw
    obtain ⟨a, vs, F', rfl, h1, g, h2⟩ := hx.upL fh po hup
    obtain ⟨z1, z2, z3⟩ := zip_is h2
    refine ⟨a, (x :: xs).zip vs, rfl, .inl (.inl (by rw [z2]; exact h1)), fun p hp => ?_, by rw [z1]; exact ok, ?_, fun q hq2 => ?_⟩
    · have hm : p.1 ∈ x :: xs := by rw [← z1]; exact List.mem_map_of_mem hp
      exact Is.dp 50 p.1 p.2 (sortOk_plain ok _ hm) (Is.mono (g.fh.trans hid_ex) _ _ (z3 p hp))
    · have := congrArg List.length z1
      rw [List.length_map, List.length_cons] at this
      omega
    · obtain ⟨v, r, rfl, _, _⟩ := h2
      rw [List.zip_cons_cons] at hq2 z1 z3
      have e := best_data hq2 (by rw [List.map_cons] at z1; exact (List.cons.inj z1).2)
      have hm := List.mem_of_getElem? hq2
      exact hq (f x xs) q.2 F' H g (by rw [hf, ← e]; exact z3 q hm) hw
theorem uns_minL {k1 : Kd} : UnS G k1 .v (fun v H Q => rBest PySem.W.dataLt G.K [v] H Q) (minLW k1) := uns_best (f := minDD) fun _ _ => rfl
theorem uns_maxL {k1 : Kd} : UnS G k1 .v (fun v H Q => rBest (fun a b => PySem.W.dataLt b a) G.K [v] H Q) (maxLW k1) := uns_best (f := maxDD) fun _ _ => rfl

/-! ### a list times a whole number -/
def repLW : D → D → W D := fun x y Q _ => match x, y with | .lst xs, .int k => (-(2 ^ 63) ≤ k ∧ k < 2 ^ 63 ∧ xs.length * k.toNat ≤ 16777216) ∧ Q (.lst (List.replicate k.toNat xs).flatten) | _, _ => False
theorem ops_repL : OpS G .v .v (.n 1) rRep repLW := by
  intro F H fh po x y v u hx hy Qd Ed Q hw hq
  cases x <;> try exact hw.elim
  cases y <;> try exact hw.elim
  rename_i xs k
  obtain ⟨⟨h1, h2, h3⟩, q⟩ := hw
  obtain ⟨a, vs, rfl, t1, t2⟩ := hx
  have hs : sizeLine = 16777216 := sizeLine_eq
  exact ⟨a, k, vs, rfl, hy, (hid_some (fh _ _ t1)).2, h1, h2, by rw [t2.len, hs]; exact h3, fun p hp => fin_lst fh po hq (t2.rep _) q hp⟩
end
section
variable {Q : D → Prop} {QL : List D → Prop} {E : Xn → Prop} {ρ : Env}
theorem o_rng1 {j : Int} : rngV1W (.int j) Q E = Q (.rng 0 j) := nr rfl
theorem o_rng2 {i j : Int} : rngV2W (.int i) (.int j) Q E = Q (.rng i j) := nr rfl
def kRH (QL : List D → Prop) : D → Prop | .rng i j => (-(2 ^ 62) ≤ i ∧ i < 2 ^ 62 ∧ -(2 ^ 62) ≤ j ∧ j < 2 ^ 62 ∧ j - i ≤ 16777216) ∧ QL (rngD i (j - i).toNat) | _ => False
theorem kRH_e {i j : Int} : kRH QL (.rng i j) = ((-(2 ^ 62) ≤ i ∧ i < 2 ^ 62 ∧ -(2 ^ 62) ≤ j ∧ j < 2 ^ 62 ∧ j - i ≤ 16777216) ∧ QL (rngD i (j - i).toNat)) := nr rfl
theorem k_rH {we : Env → W D} : rngHI we ρ QL E = we ρ (kRH QL) E := by unfold rngHI; congr 1
theorem o_minL {k : Kd} {x : D} {xs : List D} : minLW k (.lst (x :: xs)) Q E = (upL k (x :: xs) ∧ sortOk (x :: xs) = true ∧ Q (minDD x xs)) := nr rfl
theorem o_maxL {k : Kd} {x : D} {xs : List D} : maxLW k (.lst (x :: xs)) Q E = (upL k (x :: xs) ∧ sortOk (x :: xs) = true ∧ Q (maxDD x xs)) := nr rfl
theorem o_repL {xs : List D} {k : Int} : repLW (.lst xs) (.int k) Q E = ((-(2 ^ 63) ≤ k ∧ k < 2 ^ 63 ∧ xs.length * k.toNat ≤ 16777216) ∧ Q (.lst (List.replicate k.toNat xs).flatten)) := nr rfl
end
end DL

namespace DL
open PySem PySem.Spec PyProof.Rows L2

/-! ### a tuple times any whole number; a text times one -/
theorem tuple_mul_same (l : Addr) (items : Array Value) (n : Nat) (dd : Option Addr) (sl : Array (Option Value)) (x : Int) (u : Tok) (c0 : (decide (x < -(2 ^ 63)) || decide (x ≥ 2 ^ 63)) = false) (c1 : (items.isEmpty || x == 1) = true) :
    Meets (Builtin.«tuple.__mul__» ⟨[.ref l, .int x u], []⟩) (fun _ R s => s.heap.get? l = some { cls := .type "tuple", dict := dd, data := .seq items n, slots := sl } ∧ R (.ok (.ret (Value.ref l))) s) :=
  .of_wp fun prog w A R s h => by
    obtain ⟨hp, g, d, tk, os⟩ := s
    obtain ⟨hl, h⟩ := h
    have f1 := AutoSeq1.idx_int
    wp_walk using AutoSeq1.wpAny_loadPart' hl
    repeat (first
      | (refine wpAny_ite_false (decide_eq_false (by rw [c0]; exact Bool.false_ne_true)) ?_; wp_walk using AutoSeq1.wpAny_loadPart' hl)
      | (refine wpAny_ite_true (decide_eq_true c1) ?_; wp_walk using AutoSeq1.wpAny_loadPart' hl))
    exact ⟨_, rfl, h⟩
theorem tuple_mul_none (l : Addr) (items : Array Value) (n : Nat) (dd : Option Addr) (sl : Array (Option Value)) (x : Int) (u : Tok) (c0 : (decide (x < -(2 ^ 63)) || decide (x ≥ 2 ^ 63)) = false) (c1 : (items.isEmpty || x == 1) = false) (c2 : (decide (x ≤ 0) || items.isEmpty) = true) :
    Meets (Builtin.«tuple.__mul__» ⟨[.ref l, .int x u], []⟩) (fun _ R s => s.heap.get? l = some { cls := .type "tuple", dict := dd, data := .seq items n, slots := sl } ∧
      R (.ok (.ret (Value.ref s.heap.objs.size))) { s with heap := s.heap.push { cls := Value.type "tuple", data := Data.seq #[] }, toks := s.toks }) :=
  .of_wp fun prog w A R s h => by
    obtain ⟨hp, g, d, tk, os⟩ := s
    obtain ⟨hl, h⟩ := h
    have f1 := AutoSeq1.idx_int
    wp_walk using AutoSeq1.wpAny_loadPart' hl
    repeat (first
      | (refine wpAny_ite_false (decide_eq_false (by rw [c0]; exact Bool.false_ne_true)) ?_; wp_walk using AutoSeq1.wpAny_loadPart' hl)
      | (refine wpAny_ite_false (decide_eq_false (by rw [c1]; exact Bool.false_ne_true)) ?_; wp_walk using AutoSeq1.wpAny_loadPart' hl)
      | (refine wpAny_ite_true (decide_eq_true c2) ?_; wp_walk using AutoSeq1.wpAny_loadPart' hl))
    exact ⟨_, rfl, h⟩
/-- tuple * int, any: what rRepT leaves out -/
def rRepT2 (K : PySem.W.Frag) : R2 := fun x y H Q => ∃ l k xs, x = .ref l ∧ y = .int k ∧ SqT K H l xs ∧ -1000 ≤ k ∧ (((xs = [] ∨ k = 1) ∧ k ≤ 1000 ∧ Q (.ref l) H) ∨ (xs ≠ [] ∧ k ≤ 0 ∧ ∀ p, H p = none → Q (.ref p) (upd H p (.tup []))))
section
variable {X : Cx} {C : Cf} {Ml M M1 M' : List Md} {rk : Kd} {Wx : WX} {pos p p2 : Pos} {G : Gx}
theorem op_repT2 : OpR X (binaryOp .Mult) (rRepT2 X.K) := by
  intro pins s σ H x y v u Q I rx ry h
  obtain ⟨l, k, xs, rfl, rfl, hT, h1, hc⟩ := h
  cases rx
  obtain ⟨t, rfl⟩ := ry
  obtain ⟨its, r, ⟨⟨cls, dd, data, sl⟩, ho, hcl, n, hd⟩, hs⟩ := I.tuple hT
  simp only at hcl hd
  subst hcl hd
  have hle : its.length = xs.length := r.length.symm
  rcases hc with ⟨h2, h3, q⟩ | ⟨hne, h2, q⟩
  · have c0 : (decide (k < -(2 ^ 63)) || decide (k ≥ 2 ^ 63)) = false := by
      rw [decide_eq_false (by omega), decide_eq_false (by omega)] <;> rfl
    have c1 : (its.toArray.isEmpty || k == 1) = true := by
      rcases h2 with rfl | rfl
      · have : its = [] := List.eq_nil_of_length_eq_zero (by simpa using hle)
        subst this
        rfl
      · rw [Bool.or_eq_true]; exact .inr rfl
    refine wpAny_binaryOp_repeat_ref (T := "tuple") (U := "int") (by decide) ⟨_, ho, rfl⟩ (fun s' => typeIs_int s' k t) noFill_tuple_mul F.fills_int_mul F.slot_int_rmul repeat_tuple F.slot_int_index.lookup
      (call_meets F.slot_int_rmul (typeIs_int s k t) F.entry_int_rmul (F.args_int_rmul_2 _ _) (int_rmul_tuple k t l its.toArray n dd sl)
        ⟨ho, rfl, ⟨_, ho, rfl⟩, call_meets F.slot_tuple_mul ⟨_, ho, rfl⟩ F.entry_tuple_mul (F.args_tuple_mul_2 _ _) (tuple_mul_same l its.toArray n dd sl k t c0 c1) ⟨ho, ?_⟩⟩)
    exact ⟨.ref l, H, I, rfl, q⟩
  · have c0 : (decide (k < -(2 ^ 63)) || decide (k ≥ 2 ^ 63)) = false := by
      rw [decide_eq_false (by omega), decide_eq_false (by omega)] <;> rfl
    have hi : its.toArray.isEmpty = false := by
      cases its with
      | nil => exact absurd (List.eq_nil_of_length_eq_zero hle.symm) hne
      | cons a b => rfl
    have c1 : (its.toArray.isEmpty || k == 1) = false := by
      rw [hi, Bool.false_or]
      exact beq_eq_false_iff_ne.mpr (by omega)
    have c2 : (decide (k ≤ 0) || its.toArray.isEmpty) = true := by
      rw [decide_eq_true h2] <;> rfl
    refine wpAny_binaryOp_repeat_ref (T := "tuple") (U := "int") (by decide) ⟨_, ho, rfl⟩ (fun s' => typeIs_int s' k t) noFill_tuple_mul F.fills_int_mul F.slot_int_rmul repeat_tuple F.slot_int_index.lookup
      (call_meets F.slot_int_rmul (typeIs_int s k t) F.entry_int_rmul (F.args_int_rmul_2 _ _) (int_rmul_tuple k t l its.toArray n dd sl)
        ⟨ho, rfl, ⟨_, ho, rfl⟩, call_meets F.slot_tuple_mul ⟨_, ho, rfl⟩ F.entry_tuple_mul (F.args_tuple_mul_2 _ _) (tuple_mul_none l its.toArray n dd sl k t c0 c1 c2) ⟨ho, ?_⟩⟩)
    refine ⟨.ref s.heap.objs.size, _, I.laid (t' := s.toks) (o := .tup []) (fun b ob q => Heap.get?_push_of_some _ q) (Nat.le_refl _) ?_, rfl, q _ (I.hok.fresh (Nat.le_refl _))⟩
    exact ⟨Nat.zero_le _, [], .nil, IsTup.new _ _⟩
def rRepTA (K : PySem.W.Frag) : R2 := fun x y H Q => rRepT K x y H Q ∨ rRepT2 K x y H Q
theorem op_repTA : OpR X (binaryOp .Mult) (rRepTA X.K) := fun pins s σ H x y v u Q I rx ry h => by
  rcases h with h | h
  · exact op_repT pins s σ H x y v u Q I rx ry h
  · exact op_repT2 pins s σ H x y v u Q I rx ry h
def repAW : D → D → W D := fun x y Q _ => match x, y with | .tup xs, .int k => (-1000 ≤ k ∧ k ≤ 1000 ∧ xs.length ≤ 1000) ∧ Q (.tup (List.replicate k.toNat xs).flatten) | _, _ => False
theorem ops_repTA : OpS G .v .v .v (rRepTA G.K) repAW := by
  intro F H fh po x y v u hx hy Qd Ed Q hw hq
  cases x <;> try exact hw.elim
  cases y <;> try exact hw.elim
  rename_i xs k
  obtain ⟨⟨h1, h2, h3⟩, q⟩ := hw
  have ht := hx
  obtain ⟨a, vs, rfl, t1, t2⟩ := hx
  have hh := (hid_some (fh _ _ t1)).2
  by_cases hk : xs = [] ∨ k = 1
  · refine .inr ⟨a, k, vs, rfl, hy, .inl (.inl hh), h1, .inl ⟨?_, h2, ?_⟩⟩
    · rcases hk with rfl | rfl
      · exact .inl (by rw [show vs = [] from t2])
      · exact .inr rfl
    · refine hq (.tup xs) _ F H (Gr.refl fh po) ht ?_
      rcases hk with rfl | rfl
      · simpa using q
      · simpa using q
  · simp only [not_or] at hk
    by_cases h0 : k ≤ 0
    · refine .inr ⟨a, k, vs, rfl, hy, .inl (.inl hh), h1, .inr ⟨fun e => hk.1 ?_, h0, fun p hp => ?_⟩⟩
      · have := t2.len
        rw [e] at this
        exact List.length_eq_zero_iff.mp this.symm
      · have e : k.toNat = 0 := by omega
        rw [e] at q
        exact fin_tup (vs := []) fh po hq (ds := []) rfl (by simpa using q) hp
    · refine .inl ⟨a, k, vs, rfl, hy, .inl (.inl hh), fun e => hk.1 ?_, by omega, h2, by rw [t2.len]; exact h3, fun p hp => fin_tup fh po hq (t2.rep _) q hp⟩
      have := t2.len
      rw [e] at this
      exact List.length_eq_zero_iff.mp this.symm
/-- a text times a small whole number -/
def repStr (x : Str) (n : Int) : Str := if n < 1 then Str.empty else if (n == 1 || x.length == 0) = true then x else ⟨(List.replicate n.toNat x.cps).foldl (· ++ ·) #[]⟩
def repSW : D → D → W D := fun x y Q _ => match x, y with | .str s, .int k => (-1000 ≤ k ∧ k ≤ 1000 ∧ s.length ≤ 1000 ∧ (repStr s k).length ≤ 1000000) ∧ Q (.str (repStr s k)) | _, _ => False
def rRepS : R2 := fun x y H Q => ∃ s k, x = .str s ∧ y = .int k ∧ (-1000 ≤ k ∧ k ≤ 1000 ∧ s.length ≤ 1000 ∧ (repStr s k).length ≤ 1000000) ∧ Q (.str (repStr s k)) H
theorem op_repS : OpR X (binaryOp .Mult) rRepS := by
  intro pins s σ H x y v u Q I rx ry h
  obtain ⟨z, k, rfl, rfl, ⟨h1, h2, h3, h4⟩, q⟩ := h
  obtain ⟨t, rfl⟩ := rx
  obtain ⟨t', rfl⟩ := ry
  have c0 : (decide (k < -(2 ^ 63)) || decide (k ≥ 2 ^ 63)) = false := by
    rw [decide_eq_false (by omega), decide_eq_false (by omega)] <;> rfl
  refine P.mul_str c0 (fun _ _ => ?_) (fun _ _ => ?_) ?_
  · have h6 : (z.length : Int) ≤ 1000 := by exact_mod_cast h3
    have h5 : 1 ≤ k := by omega
    have : (1000 : Int) ≤ (2 ^ 63 - 1) / k := by
      refine Int.le_ediv_of_mul_le (by omega) ?_
      omega
    omega
  · unfold Builtin.Str.tooLong
    have a1 : z.length * k.toNat ≤ 1000 * 1000 := Nat.mul_le_mul h3 (by omega)
    rw [sizeLine_eq]
    exact decide_eq_false (by omega)
  · have hs : sizeLine = 16777216 := sizeLine_eq
    unfold repStr at q h4
    by_cases h : k < 1
    · rw [if_pos h] at q ⊢
      exact ⟨by show (0 : Nat) ≤ sizeLine; omega, ⟨.str Str.empty, H, I.tok _, ⟨_, rfl⟩, q⟩⟩
    · rw [if_neg h] at q h4 ⊢
      by_cases h5 : (k == 1 || z.length == 0) = true
      · rw [if_pos h5] at q ⊢
        exact ⟨.str z, H, I, ⟨_, rfl⟩, q⟩
      · rw [if_neg h5] at q h4 ⊢
        exact ⟨by omega, ⟨.str _, H, I.tok _, ⟨_, rfl⟩, q⟩⟩
theorem ops_repS {k1 k2 : Kd} (h1 : k1.isN = false := by rfl) : OpS G k1 k2 .v rRepS repSW := by
  intro F H fh po x y v u hx hy Qd Ed Q hw hq
  cases x <;> try exact hw.elim
  cases y <;> try exact hw.elim
  rename_i s k
  have e : v = .str s := by
    cases k1 with
    | v => exact hx
    | r => exact hx
    | n n => cases h1
  exact ⟨s, k, e, hy.int, hw.1, fin0 (.inl rfl) fh po hq (d := .str _) (fun _ => rfl) hw.2⟩
end
section
variable {Q : D → Prop} {E : Xn → Prop}
theorem o_repA {xs : List D} {k : Int} : repAW (.tup xs) (.int k) Q E = ((-1000 ≤ k ∧ k ≤ 1000 ∧ xs.length ≤ 1000) ∧ Q (.tup (List.replicate k.toNat xs).flatten)) := nr rfl
theorem o_repS {s : Str} {k : Int} : repSW (.str s) (.int k) Q E = ((-1000 ≤ k ∧ k ≤ 1000 ∧ s.length ≤ 1000 ∧ (repStr s k).length ≤ 1000000) ∧ Q (.str (repStr s k))) := nr rfl
end
end DL

namespace DL
open PySem PySem.Spec PyProof.Rows L2

/-! ### a dict comprehension whose keys are tuples -/
theorem d_dictSetT {X : Cx} {pins : List (Addr × Obj)} {σ : L2.St} {H : Hp} {s : Shared} {E : Value → Shared → Prop} {D b : Addr} {kvs : List (List Key × V)} {k : List Key} {v : V} {r : Value} {Q : Unit → Shared → Prop} (hu : X.A.units < cLine) (I : Inv X pins σ H s) (hD : H D = some (.dT kvs)) (hz : kvs.length < sizeLine)
    (hb : H b = some (.tup (k.map kV))) (rv : RelV v r) (h : ∀ s', Inv X pins σ (upd H D (.dT (putK kvs k v))) s' → Q () s') : wpAny (model X.prog X.w) X.A (dictSet D (.ref b) r) Q E s := by
  obtain ⟨z, hd, xs, rel, dd⟩ := dt_of I.hok hD
  have hzv : xs.length ≤ sizeLine := by rw [← Paired.length rel]; exact z
  have hl : (putK kvs k v).length ≤ sizeLine := by have := length_putK kvs k v; omega
  refine wpAny_dictSet_heap (hsz := hzv) (show (tupleKind (mixKind X.prog X.w)).room X.A from hu) (key_of I.hok hb) dd fun h' dd' hs => h _ ?_
  obtain ⟨q, es, ep, hq, h2, h3, h4, _, h5⟩ := dd'
  refine d_write I (by rw [hD]; exact True.intro) hs ⟨q, hq⟩ ⟨hl, hd, _, (rel.put k hb rv).keeps fun c ys ec => ?_, q, es, ep, hq, h2, h3, h4, h5⟩
  rw [upd_ne (ne_of ec hD (fun z => nomatch z))]
  exact ec
section
variable {X : Cx}
/-- {k: v for target in iter if ..}, keys tuples: D the new dict -/
def tDcT (wi : TI) (g : TG) (tt : TT) (tk tv : TE) (vs : List Nat) : TE := fun σ H Q => wi σ H fun J H1 => ∀ D, H1 D = none → ∃ W : Nat → Nat → Hp → Prop, (∃ m, W 0 m (upd H1 D (.dT []))) ∧ ∀ i m H, W i m H →
  (J.stop i H ∧ Q (.ref D) H) ∨ (J.go i H ∧ ∃ Nx : Hp → Prop, (∀ H', Nx H' → ∃ m', m' < m ∧ W (i + 1) m' H') ∧ ∀ x H', J.yld i H x H' → g x (wipe σ vs) H' fun σ2 H2 => wipe σ2 vs = wipe σ vs ∧ tt σ2 H2 fun b H3 =>
    if b = true then tk σ2 H3 fun y H4 => tv σ2 H4 fun z H5 => ∃ kvs k a, y = .ref a ∧ H5 a = some (.tup (k.map kV)) ∧ H5 D = some (.dT kvs) ∧ kvs.length < sizeLine ∧ Nx (upd H5 D (.dT (putK kvs k z))) else Nx H3)
theorem pe_dcT {kx vx tg iter : Expr} {ifs : List Expr} {scope : Scope} {own : List (Str × Nat)} {pos : Pos} {wi : TI} {g : TG} {tt : TT} {tk tv : TE} (hu : X.A.units < cLine) (hc : X.calm = true) (hN : X.N.Nodup) (hi : PI X tg iter wi) (ok : BlkOk X.N X.env.scope scope own)
    (hg : ∀ (s : Shared) (H : Hp) (C : Addr) (cl : List (Str × Addr)) (fp : List Addr), PG (X.blk s H scope (compEnvC scope cl C X.env) fp) tg g) (ht : ∀ (s : Shared) (H : Hp) (C : Addr) (cl : List (Str × Addr)) (fp : List Addr), PTs (X.blk s H scope (compEnvC scope cl C X.env) fp) ifs tt)
    (hk : ∀ (s : Shared) (H : Hp) (C : Addr) (cl : List (Str × Addr)) (fp : List Addr), PE (X.blk s H scope (compEnvC scope cl C X.env) fp) kx tk)
    (he : ∀ (s : Shared) (H : Hp) (C : Addr) (cl : List (Str × Addr)) (fp : List Addr), PE (X.blk s H scope (compEnvC scope cl C X.env) fp) vx tv) (hs : ∀ x, foldedSetIterable iter X.env x = pure x := by intro _; rfl) :
    PE X (.DictComp kx vx [⟨tg, iter, ifs, 0⟩] scope pos) (tDcT wi g tt tk tv (own.map (·.2))) := by
  refine ⟨fun pins s σ H Q I h => ?_⟩
  rw [arm_eval_DictComp]
  have hfree : ∀ y ∈ scope.names, y.2 = .free → ∃ c, X.env.cells.lookup y.1 = some c := fun y hy e => by
    rcases ok.free y hy e with k | k
    · exact I.ok.has _ (.inl k)
    · exact I.ok.has _ (.inr k)
  refine wpAny_comprehension_free rfl hs (closure_ok hfree) ok.kind (fun y hy e => by rw [ok.uniq y hy, e])
    (thn (hi.run pins s σ H _ I h) fun xv s1 hx => thn hx fun itv s2 h2 => ?_)
  obtain ⟨it, fp, tn, J, H2, e, I2, T, st2, f2, q⟩ := h2
  subst e
  refine wpAny_newObj_type (newEnv_comp ?_)
  generalize hD : s2.heap.objs.size = D
  have hDn : H2 D = none := I2.hok.fresh (Nat.le_of_eq hD)
  obtain ⟨W, ⟨m0, w0⟩, turn⟩ := q D hDn
  generalize hs3 : ({ s2 with heap := s2.heap.push { cls := .type "dict", data := .dict #[] } } : Shared) = s3
  have I3 : Inv X pins σ (upd H2 D (.dT [])) s3 := by
    rw [← hs3]
    refine I2.laid (t' := s2.toks) (fun b o e => Heap.get?_push_of_some _ e) (Nat.le_of_eq hD) ?_
    rw [← hD]
    exact dt_empty s2.heap I2.big
  have h3 : s3.heap = s2.heap.push { cls := .type "dict", data := .dict #[] } := by rw [← hs3]
  have sz : ∀ b ∈ fp, b < s2.heap.objs.size := fun b hb => by
    obtain ⟨o, e, _⟩ := T.obj _ _ st2 b hb
    exact Heap.lt_size e
  have f3 : ∀ b ∈ fp, FpOk X pins (upd H2 D (.dT [])) b ∧ b < s3.heap.objs.size := fun b hb => by
    have hlt := sz b hb
    refine ⟨⟨?_, (f2 b hb).2⟩, by rw [h3, Heap.size_push]; exact Nat.lt_succ_of_lt hlt⟩
    rw [upd_ne (by rw [← hD]; exact Nat.ne_of_lt hlt)]
    exact (f2 b hb).1
  have st3 : tn 0 s3.heap := T.keep _ _ _ st2 fun b _ o e => by rw [h3]; exact Heap.get?_push_of_some _ e
  have I4 := block_start I3 ok hN f3
  have pg := hg s3 (upd H2 D (.dT [])) s3.heap.objs.size (cellsFrom (s3.heap.objs.size + 1) scope.names (cloFrom X.env.cells scope.names [])) fp
  have pt := ht s3 (upd H2 D (.dT [])) s3.heap.objs.size (cellsFrom (s3.heap.objs.size + 1) scope.names (cloFrom X.env.cells scope.names [])) fp
  have pk := hk s3 (upd H2 D (.dT [])) s3.heap.objs.size (cellsFrom (s3.heap.objs.size + 1) scope.names (cloFrom X.env.cells scope.names [])) fp
  have pe := he s3 (upd H2 D (.dT [])) s3.heap.objs.size (cellsFrom (s3.heap.objs.size + 1) scope.names (cloFrom X.env.cells scope.names [])) fp
  have nfp : ∀ b ∈ fp, (upd H2 D (.dT [])) b = none := fun b hb => (f3 b hb).1.1
  show codeAny _ _ (.compStart (.DictComp kx vx [⟨tg, iter, ifs, 0⟩] scope pos) 0 (.ref it) (.ref D) (compEnvC scope (cellsFrom (s3.heap.objs.size + 1) scope.names (cloFrom X.env.cells scope.names [])) s3.heap.objs.size X.env)) (compPost (model X.prog X.w) X.A X.xe none (EP X pins σ Q) (.ref D) s3.heap.objs.size) { s3 with heap := pushCells (s3.heap.push { cls := .type "dict", data := .dict #[] }) scope.names }
  generalize hce : compEnvC scope (cellsFrom (s3.heap.objs.size + 1) scope.names (cloFrom X.env.cells scope.names [])) s3.heap.objs.size X.env = ce at I4 pg pt pk pe ⊢
  have cL : ce.locals = s3.heap.objs.size := by subst hce; rfl
  generalize hH3 : upd H2 D (.dT []) = H3 at I3 I4 pg pt pk pe w0 nfp f3
  generalize hs4 : ({ s3 with heap := pushCells (s3.heap.push { cls := .type "dict", data := .dict #[] }) scope.names } : Shared) = s4 at I4 ⊢
  have st4 : tn 0 s4.heap := T.keep _ _ _ st3 fun b _ o e => by rw [← hs4]; exact pushCells_keeps _ _ _ _ (Heap.get?_push_of_some _ e)
  have stat : ∀ {σ' : L2.St} {H' : Hp} {s' : Shared}, Inv (X.blk s3 H3 scope ce fp) [] σ' H' s' → (∀ b ∈ fp, H' b = none) → ∀ b ∈ fp, FpOk (X.blk s3 H3 scope ce fp) [] H' b := fun {σ' H' s'} I' hn b hb =>
    ⟨hn b hb, (I'.ok.exf b hb).1, I'.ok.exfs b hb, .inl hb, fun x c e => (I'.ok.exf b hb).2 x c e, fun p hp => absurd (show p ∈ ([] : List (Addr × Obj)) ++ [] from hp) (by simp)⟩
  have loop : codeAny (model X.prog X.w) X.A (.compLoop (.DictComp kx vx [⟨tg, iter, ifs, 0⟩] scope pos) 0 (.ref it) (.ref D) ce) (compPost (model X.prog X.w) X.A X.xe none (EP X pins σ Q) (.ref D) s3.heap.objs.size) s4 := by
    refine compLoop_anyD (fun n s' => ∃ i H', Inv (X.blk s3 H3 scope ce fp) [] (wipe σ (own.map (·.2))) H' s' ∧ tn i s'.heap ∧ (∀ b ∈ fp, H' b = none) ∧ W i n H') ?_ m0 ⟨0, H3, I4, st4, nfp, w0⟩
    rintro n s5 ⟨i, H5, I5, st5, n5, w5⟩
    rcases turn i n H5 w5 with ⟨stop, qq⟩ | ⟨go, Nx, hNx, step⟩
    · have td := T.done (X.blk s3 H3 scope ce fp) rfl rfl rfl hc i [] s5 _ H5 (fun _ _ => False) I5 (stat I5 n5) st5 stop
      refine thnF td fun r s6 ⟨hr, I6⟩ => ?_
      subst hr
      have I7 : Inv X pins σ H5 s6 := I3.call' (ch := fp) I6.os I6.base I6.hok I6.bare fun b hb => ⟨(f3 b hb).1.2.2.2.1, (f3 b hb).1.2.1, (f3 b hb).1.2.2.2.2.1, (f3 b hb).1.2.2.2.2.2⟩
      have nC : H5 s3.heap.objs.size = none := by
        have z : H5 ce.locals = none := I6.free
        rw [cL] at z
        exact z
      obtain ⟨m, hn, _⟩ := I6.loc
      have hn : s6.heap.Ns ce.locals m := hn
      rw [cL] at hn
      refine ⟨m, hn, fun h'' sb => ?_⟩
      obtain ⟨f0, f1, f2, f3, f4, f5⟩ := I3.fpOk (Nat.le_refl _) nC
      exact ⟨.ref D, H5, I7.turned (t' := s6.toks) (fun b o hb e => (sb.2 b hb).trans e) f0 f1 f3 f4 f5, rfl, qq⟩
    · have ti := T.item (X.blk s3 H3 scope ce fp) rfl rfl rfl hc i [] s5 _ H5 (fun _ _ => False) I5 (stat I5 n5) st5 go
      refine thnF ti fun r s6 ⟨u, hr, h6⟩ => ?_
      subst hr
      refine thnF h6 fun _ s7 ⟨x, H7, I7, r7, y7, st7, n7⟩ => ?_
      have I7' := I7.pinned (stat I7 n7) (T.obj _ _ st7)
      refine thnF (pg.run _ s7 _ H7 x u _ I7' r7 (step x H7 y7)) fun _ s8 ⟨σ8, H8, I8, hw8, q8⟩ => ?_
      refine thnF (pt.run _ s8 σ8 H8 _ I8 q8) fun b s9 ⟨H9, I9, q9⟩ => ?_
      have fin : ∀ {s' : Shared} {H' : Hp}, Inv (X.blk s3 H3 scope ce fp) ([] ++ pinsAt fp s7.heap) σ8 H' s' → Nx H' → ∃ m, m < n ∧ ∃ i H', Inv (X.blk s3 H3 scope ce fp) [] (wipe σ (own.map (·.2))) H' s' ∧ tn i s'.heap ∧ (∀ b ∈ fp, H' b = none) ∧ W i m H' := fun {s' H'} I' nx => by
        obtain ⟨m', hm, w'⟩ := hNx H' nx
        have pin' : ∀ b ∈ fp, ∀ o, s7.heap.get? b = some o → s'.heap.get? b = some o ∧ H' b = none := fun b hb o e =>
          let z := I'.pin (b, o) (List.mem_append_right _ (List.mem_append_right _ (mem_pinsAt hb e)))
          ⟨z.1, z.2.1⟩
        have hl : (wipe σ (own.map (·.2))).length = σ8.length := by rw [← hw8, wipe_length]
        refine ⟨m', hm, i + 1, H', (I'.unpinned (pins := [])).weak hl (fun j v e => ?_), T.keep _ _ _ st7 fun b hb o e => (pin' b hb o e).1, fun b hb => ?_, w'⟩
        · rw [← hw8] at e
          exact (wipe_some e).1
        · obtain ⟨o, e, _⟩ := T.obj _ _ st7 b hb
          exact (pin' b hb o e).2
      cases b with
      | false =>
        simp only [Bool.false_eq_true, if_false] at q9 ⊢
        exact fin I9 q9
      | true =>
        simp only [if_true] at q9 ⊢
        refine thnF (pk.run _ s9 σ8 H9 _ I9 q9) fun z s10 ⟨yk, H10, I10, r10, q10⟩ => ?_
        refine thnF (pe.run _ s10 σ8 H10 _ I10 q10) fun z2 s11 ⟨yv, H11, I11, r11, kvs, k, a, ek, hk11, hD11, hz11, nx⟩ => ?_
        subst ek
        obtain rfl : z = Value.ref a := r10
        exact d_dictSetT (X := X.blk s3 H3 scope ce fp) hu I11 hD11 hz11 hk11 r11 fun s12 I12 => fin I12 nx
  exact codeAny_compStart_dict loop (T.self X.A 0 _ _ _ st4 loop)
end
/-- the pairs, one by one -/
def dcL (tg : D → Env → W Env) (wt : Env → W Bool) (wk wv : Env → W D) (ρ0 : Env) : List D → List (List Key) → List D → (List (List Key) → List D → Prop) → Prop
  | [], ks, xs, Q => Q ks xs
  | x :: r, ks, xs, Q => tg x ρ0 (fun ρ1 => wt ρ1 (fun b => if b = true then wk ρ1 (fun y => wv ρ1 (fun z => match y with | .tup ys => (match keysOf ys with | some k => ks.length < 16777216 ∧ dcL tg wt wk wv ρ0 r (putD ks xs k z).1 (putD ks xs k z).2 Q | none => False) | _ => False) noX) noX else dcL tg wt wk wv ρ0 r ks xs Q) noX) noX
def dcW (vs : List Nat) (wi : Env → W (List D)) (tg : D → Env → W Env) (wt : Env → W Bool) (wk wv : Env → W D) : Env → W D := fun ρ Q E => wi ρ (fun ds => dcL tg wt wk wv (wipeD ρ vs) ds [] [] (fun ks xs => Q (.dtt ks xs))) E
section
variable {X : Cx} {C : Cf} {M : List Md} {Wx : WX} {pos : Pos}
theorem se_dcT {G : Gx} (hG : G.pl = C.pl) {ki : Kd} {is vs : List Nat} {ti : TI} {g : TG} {tt : TT} {tk tv : TE} {wi : Env → W (List D)} {tg : D → Env → W Env} {wt : Env → W Bool} {wk wv : Env → W D}
    (hi : SI G C M Wx ki ti wi) (hg : SG G C M is g tg) (ht : ST G C M WX0 tt wt) (hk : SE G C M WX0 .v tk wk) (he : SE G C M WX0 .v tv wv) (his : ∀ i ∈ is, i ∈ vs) : SE G C M Wx (.n 1) (tDcT (fun σ H R => ti σ H (fun J H' => HSz H' → R J H')) g tt tk tv vs) (dcW vs wi tg wt wk wv) := by
  intro F H σ ρ s Qd Ed Q hw hq hx
  refine hi F H σ ρ s _ Ed _ hw (fun ds F1 H1 J g1 src sz q => ?_) fun x cls dd F' H' g i q => hx x cls dd F' H' g i q
  intro hsz Dl hDl
  have s1 := s.gr g1
  obtain ⟨FDl, plDl⟩ := s1.base.nofresh hDl
  have pool1 := s1.base.pool
  refine ⟨fun i m H' => m = ds.length - i ∧ i ≤ ds.length ∧ ∃ F' xs ps, Gr C.pl F1 H1 F' H' ∧ F' Dl = none ∧ H' Dl = some (.dT ps) ∧ IsL G F' xs (ps.map Prod.snd) ∧
    dcL tg wt wk wv (wipeD ρ vs) (ds.drop i) (ps.map Prod.fst) xs (fun ks xs => Qd (.dtt ks xs)), ⟨_, rfl, Nat.zero_le _, F1, [], [], Gr.laid s1.base.fh pool1 hDl, FDl, upd_same, rfl, q⟩, ?_⟩
  rintro i m H2 ⟨hm, hle, F2, xs, ps, g2, f2, h2, o2, q2⟩
  obtain ⟨stop, step⟩ := src F2 H2 g2.ff (fun _ => by rw [hG]; exact g2.hh) (by rw [hG]; exact g2.fh) (by rw [hG]; exact g2.pool)
  by_cases hlt : i < ds.length
  · have hd : ds[i]? = some ds[i] := List.getElem?_eq_getElem hlt
    obtain ⟨go, yl⟩ := step i ds[i] hd
    rw [List.drop_eq_getElem_cons hlt] at q2
    refine .inr ⟨go, fun H' => ∃ F' xs ps, Gr C.pl F1 H1 F' H' ∧ F' Dl = none ∧ H' Dl = some (.dT ps) ∧ IsL G F' xs (ps.map Prod.snd) ∧
      dcL tg wt wk wv (wipeD ρ vs) (ds.drop (i + 1)) (ps.map Prod.fst) xs (fun ks xs => Qd (.dtt ks xs)), fun H' h => ⟨ds.length - (i + 1), by omega, rfl, hlt, h⟩, fun x H3 y => ?_⟩
    obtain ⟨F3, g3, is3⟩ := yl x H3 y
    rw [hG] at g3
    have hl : ∀ {F' H' : Hp}, Gr C.pl F2 H2 F' H' → F' Dl = none ∧ H' Dl = some (.dT ps) := fun {F' H'} g => by
      have hDH : H' Dl = some (.dT ps) := g.hh Dl _ (by rw [hid_out plDl]; exact h2)
      refine ⟨?_, hDH⟩
      cases e : F' Dl with
      | none => rfl
      | some u =>
        rcases g.sep Dl u e with z | z | ⟨xs, z⟩
        · rw [f2] at z; cases z
        · rw [h2] at z; cases z
        · have h4 := (hid_some (g.fh Dl u e)).2
          rw [hDH, z] at h4
          cases h4
    have s2 := (s1.gr g2).wiped vs
    refine hg F3 H3 (wipe σ vs) (wipeD ρ vs) (s2.gr g3) ds[i] x is3 _ noX _ q2 fun σ4 ρ4 s4 l4 k4 q4 => ?_
    have hw4 : wipe σ4 vs = wipe σ vs := by
      have hww : wipe (wipe σ vs) vs = wipe σ vs := by
        apply List.ext_getElem?
        intro j
        rw [wipe_get, wipe_get, wipe_length]
        split <;> rfl
      rw [wipe_same l4 k4 his, hww]
    refine ⟨hw4, ?_⟩
    refine ht F3 H3 σ4 ρ4 s4 _ noX _ q4 (fun b F5 H5 g5 q5 => ?_) fun _ _ _ _ _ _ _ z => z.elim
    have g25 := g3.trans g5
    cases b with
    | false =>
      rw [if_neg Bool.false_ne_true] at q5 ⊢
      obtain ⟨h6, h7⟩ := hl g25
      exact ⟨F5, xs, ps, g2.trans g25, h6, h7, IsL.mono g25.ff _ _ o2, q5⟩
    | true =>
      rw [if_pos rfl] at q5 ⊢
      refine hk F5 H5 σ4 ρ4 (s4.gr g5) _ noX _ q5 (fun y v F6 H6 g6 k6 q6 => ?_) fun _ _ _ _ _ _ _ z => z.elim
      refine he F6 H6 σ4 ρ4 ((s4.gr g5).gr g6) _ noX _ q6 (fun z u F7 H7 g7 k7 q7 => ?_) fun _ _ _ _ _ _ _ z => z.elim
      have g27 := (g25.trans g6).trans g7
      obtain ⟨h8, h9⟩ := hl g27
      cases y <;> try exact q7.elim
      rename_i ys
      replace q7 : match keysOf ys with | some k => (ps.map Prod.fst).length < 16777216 ∧ dcL tg wt wk wv (wipeD ρ vs) (ds.drop (i + 1)) (putD (ps.map Prod.fst) xs k z).1 (putD (ps.map Prod.fst) xs k z).2 (fun ks xs => Qd (.dtt ks xs)) | none => False := q7
      split at q7
      · rename_i k ek
        obtain ⟨a, vs', rfl, t1, t2⟩ := k6
        have hs : sizeLine = 16777216 := sizeLine_eq
        refine ⟨ps, k, a, rfl, ?_, h9, by rw [List.length_map] at q7; omega, F7, (putD (ps.map Prod.fst) xs k z).2, putK ps k u, (g2.trans g27).upd_new hDl pool1 h8, h8, upd_same, putK_is k7 (IsL.mono g27.ff _ _ o2), ?_⟩
        · rw [← keysOf_v t2 ek]
          exact (hid_some (g7.fh _ _ (g7.ff _ _ t1))).2
        · rw [putK_keys ps xs z]
          exact q7.2
      · exact q7.elim
  · have e : i = ds.length := by omega
    subst e
    rw [List.drop_length] at q2
    refine .inl ⟨stop, ?_⟩
    have q3 : Qd (.dtt (ps.map Prod.fst) xs) := q2
    refine hq (.dtt (ps.map Prod.fst) xs) (.ref Dl) F2 H2 (g1.trans g2) ⟨[Dl], ⟨Dl, ps, [], rfl, f2, h2, rfl, OwnL.of o2, rfl⟩, by simp, fun l hl => ?_⟩ q3
    rw [List.mem_singleton] at hl
    subst hl
    exact g1.back pool1 l hDl
theorem de_dcT {ki : Kd} {is : List Nat} {kx vx tg iter : Expr} {ifs : List Expr} {scope : Scope} (own : List (Str × Nat)) {wi : Env → W (List D)} {t : D → Env → W Env} {wt : Env → W Bool} {wk wv : Env → W D} (hu : X.A.units < cLine) (hc : X.calm = true) (hN : X.N.Nodup)
    (hi : DI X C M Wx ki tg iter wi) (ok : BlkOk X.N X.env.scope scope own) (hg : ∀ (s : Shared) (H : Hp) (Ca : Addr) (cl : List (Str × Addr)) (fp : List Addr), DG (X.blk s H scope (compEnvC scope cl Ca X.env) fp) C M is tg t)
    (ht : ∀ (s : Shared) (H : Hp) (Ca : Addr) (cl : List (Str × Addr)) (fp : List Addr), DTs (X.blk s H scope (compEnvC scope cl Ca X.env) fp) C M WX0 ifs wt)
    (hk : ∀ (s : Shared) (H : Hp) (Ca : Addr) (cl : List (Str × Addr)) (fp : List Addr), DE (X.blk s H scope (compEnvC scope cl Ca X.env) fp) C M WX0 .v kx wk)
    (he : ∀ (s : Shared) (H : Hp) (Ca : Addr) (cl : List (Str × Addr)) (fp : List Addr), DE (X.blk s H scope (compEnvC scope cl Ca X.env) fp) C M WX0 .v vx wv)
    (his : ∀ i ∈ is, i ∈ own.map (·.2)) (hs : ∀ x, foldedSetIterable iter X.env x = pure x := by intro _; rfl) :
    DE X C M Wx (.n 1) (.DictComp kx vx [⟨tg, iter, ifs, 0⟩] scope pos) (dcW (own.map (·.2)) wi t wt wk wv) := by
  obtain ⟨ti, pi, si⟩ := hi.ex
  have s := se_dcT (Wx := Wx) (G := gx X C) (vs := own.map (·.2)) (M := M) (tg := t) rfl si sg_can (st_can (w := wt)) (se_can (k := .v) (w := wk)) (se_can (k := .v) (w := wv)) his
  have p : PE X (.DictComp kx vx [⟨tg, iter, ifs, 0⟩] scope pos) _ := pe_dcT (g := gOf (gx X C) C M is t) (tt := ttOf (gx X C) C M WX0 wt) (tk := teOf (gx X C) C M WX0 .v wk) (tv := teOf (gx X C) C M WX0 .v wv) hu hc hN (pi_sz pi) ok (fun s H Ca cl fp => (hg s H Ca cl fp).can) (fun s H Ca cl fp => (ht s H Ca cl fp).can) (fun s H Ca cl fp => (hk s H Ca cl fp).can) (fun s H Ca cl fp => (he s H Ca cl fp).can) hs
  exact ⟨_, p, s⟩
end
end DL

namespace DL
open PySem PySem.Spec PyProof.Rows L2

/-! ### sorted of anything that is walked -/
section
variable {X : Cx} {C : Cf} {M : List Md} {Wx : WX} {pos : Pos} {G : Gx}
theorem sort_src (hc : X.calm = true) (hu : X.A.units + 62 < cLine) {pins : List (Addr × Obj)} {s : Shared} {σ : L2.St} {H : Hp} {Q : VK} (I : Inv X pins σ H s) {T : String} {r d : Addr} {P : Nat → Value → Prop} {OK : Heap → Prop} (ps : List (D × V)) (K : PySem.W.KdlSrc X.prog X.w T r d ps.length P OK) (hok : OK s.heap) (z : ps.length ≤ sizeLine)
    (hP : ∀ (j : Nat) (v : Value), P j v → ∃ q, ps[j]? = some q ∧ RelV q.2 v) (hdp : ∀ p ∈ ps, Dp X.K H p.2 (py p.1)) (ok : sortOk (ps.map Prod.fst) = true)
    (q : ∀ p, H p = none → Q (.ref p) (upd H p (.lst ((ps.mergeSort leP).map Prod.snd)))) : wpAny (model X.prog X.w) X.A (call (.builtin "sorted") [.ref r]) (EP X pins σ Q) X.xe s := by
  refine DLS.sorted_src K (I.ok.hd hc) hok z fun h' tk us hkeep hlen hat' => ?_
  have hv : Vals (ps.map Prod.snd) us := vals_of_at (by simp [hlen]) fun j x u h1 h2 => by
    obtain ⟨q, hq, rq⟩ := hP j u (hat' j u h2)
    rw [List.getElem?_map, hq] at h1
    cases h1
    exact rq
  have e : PySem.W.EachIs (fun (v : Value) (p : D × V) => RelV p.2 v) us ps := each_vals hv
  have hob : (h'.push { cls := .type "list", data := .seq us.toArray }).get? h'.objs.size = some (seqObj "list" us.toArray 0) := Heap.get?_push_size _ rfl
  have up : ∀ b o, s.heap.get? b = some o → (PySem.W.sortingHeap (h'.push { cls := .type "list", data := .seq us.toArray }) h'.objs.size us).get? b = some o := fun b o hb => by
    have hb' := hkeep b o hb
    exact PySem.W.sortingHeap_old (Nat.ne_of_lt (Heap.lt_size hb')) (Heap.get?_push_of_some _ hb')
  have er : PySem.W.EachIs (fun v (b : D × V) => ∃ as, Reads (PySem.W.sortingHeap (h'.push { cls := .type "list", data := .seq us.toArray }) h'.objs.size us) v (py b.1) as) us ps :=
    (PySem.W.each_mem e).mono fun v p hp => by
      obtain ⟨as, r⟩ := Dp.reads I _ _ _ (hdp p hp.2) hp.1
      exact ⟨as, PyProof.Rows.Reads.keeps up r⟩
  have hal : PySem.W.AllAlike (ps.map fun p : D × V => py p.1) := by
    have := sortOk_alike ok; rw [List.map_map] at this; exact this
  have hab : DLS.Sortable2 (ps.map fun p : D × V => py p.1) := by
    have := sortOk_able ok; rw [List.map_map] at this; exact this
  have hlu : us.length ≤ sizeLine := by rw [hlen]; exact z
  refine wpAny_call_entry PyProof.Rows.slot_list_sort ⟨_, hob, rfl⟩ PyProof.Rows.entry_list_sort
    (PySem.W.list_sort_vals hob (DLS.SortsAt.data2 (s := { s with heap := PySem.W.sortingHeap (h'.push { cls := .type "list", data := .seq us.toArray }) h'.objs.size us, toks := tk }) (PySem.W.each_map (R := fun v d => ∃ as, Reads (PySem.W.sortingHeap (h'.push { cls := .type "list", data := .seq us.toArray }) h'.objs.size us) v d as) (fun p : D × V => py p.1) er) hal hab fun d hd => ?_) hlu ⟨.none, rfl, ?_⟩) (PyProof.Rows.args_list_sort _)
  · obtain ⟨p, hp, rfl⟩ := List.mem_map.mp hd
    have := (plain_lay 50 p.1 (sortOk_plain ok _ (List.mem_map_of_mem hp))).2
    show X.A.units + 1 + 1 + (py p.1).depth < cLine
    omega
  · have e2 := PySem.W.sortVals_data (h' := PySem.W.sortingHeap (h'.push { cls := .type "list", data := .seq us.toArray }) h'.objs.size us) (R := fun (v : Value) (p : D × V) => RelV p.2 v) (enc := fun p : D × V => py p.1) false e er hal
    obtain ⟨ep2, he'⟩ := PyProof.Rows.sortedHeap_at (vs := us) (out := (PySem.W.sortVals (PySem.W.dataKind (PySem.W.sortingHeap (h'.push { cls := .type "list", data := .seq us.toArray }) h'.objs.size us) (ps.map fun p : D × V => py p.1)) false us us).toArray) hob
    have I' := I.kept (t' := tk) hkeep
    refine ⟨.ref h'.objs.size, upd H h'.objs.size (.lst ((ps.mergeSort leP).map Prod.snd)), I'.laid (t' := tk) (fun b o hb => ?_) (Nat.le_refl _) ⟨?_, _, ep2, vals_each e2, he'⟩, rfl, q _ (I'.hok.fresh (Nat.le_refl _))⟩
    · have hb' : h'.get? b = some o := hb
      have hlt := Heap.lt_size hb'
      have hb2 : (h'.push { cls := .type "list", data := .seq us.toArray }).get? b = some o := Heap.get?_push_of_some _ hb'
      rw [PyProof.Rows.sortedHeap_old (Nat.ne_of_lt hlt) (Heap.lt_size hb2)]
      exact hb2
    · rw [List.length_map, List.length_mergeSort]; exact z

/-! ### sorted of a dict whose keys are tuples -/
theorem is_keys {G : Gx} {H : Hp} : ∀ k : List Key, IsL G H (k.map kD) (k.map kV)
  | [] => rfl
  | .inl i :: r => ⟨_, _, rfl, rfl, is_keys r⟩
  | .inr x :: r => ⟨_, _, rfl, rfl, is_keys r⟩
theorem is_kT {G : Gx} {H : Hp} {b : Addr} {k : List Key} (h : H b = some (.tup (k.map kV))) : Is G H (kT k) (.ref b) := ⟨b, _, rfl, h, is_keys k⟩
def rSortKT : List V → Hp → VK → Prop := fun xs H Q => ∃ (a : Addr) (kvs : List (List Key × V)), xs = [.ref a] ∧ Rd H a (.dT kvs) ∧ sortOk (kvs.map fun q => kT q.1) = true ∧
  ∀ ps : List (D × V), ps.map Prod.fst = kvs.map (fun q => kT q.1) → (∀ p ∈ ps, ∃ b k, p = (kT k, .ref b) ∧ H b = some (.tup (k.map kV))) → ∀ p, H p = none → Q (.ref p) (upd H p (.lst ((ps.mergeSort leP).map Prod.snd)))
theorem cr_sortKT (hc : X.calm = true) (hu : X.A.units + 62 < cLine) : CallR X (.builtin "sorted") rSortKT := by
  intro pins s σ H xs us Q I r h
  obtain ⟨a, kvs, rfl, hk, ok, q⟩ := h
  rw [Vals.ref1 r]
  obtain ⟨z, lo, xs, rk, o, es, ep, h1, h2, h3, h4, h5⟩ := (show ObjOk X.prog X.w H s.heap a (.dT kvs) from rd_of I.hok hk)
  have hl : kvs.length = xs.length := Paired.length rk
  have hes : es.size = xs.length := by rw [← Array.length_toList, h4, List.length_map]
  have hmem : ∀ {l : List (List Key × V)} {m : List (List Key × Addr × Value)}, Paired (fun (p : List Key × V) (q : List Key × Addr × Value) => p.1 = q.1 ∧ H q.2.1 = some (.tup (p.1.map kV)) ∧ RelV p.2 q.2.2) l m → (m.map fun q => kT q.1) = (l.map fun q => kT q.1) ∧ ∀ x ∈ m, H x.2.1 = some (.tup (x.1.map kV)) := by
    intro l m p
    induction p with
    | nil => exact ⟨rfl, by simp⟩
    | @cons a b l m hq t ih =>
      refine ⟨by rw [List.map_cons, List.map_cons, ih.1, hq.1], fun x hx => ?_⟩
      rcases List.mem_cons.mp hx with rfl | hx
      · rw [← hq.1]; exact hq.2.1
      · exact ih.2 x hx
  obtain ⟨m1, m2⟩ := hmem rk
  have e1 : (xs.map fun q => (kT q.1, V.ref q.2.1)).map Prod.fst = kvs.map fun q => kT q.1 := by rw [List.map_map]; exact m1
  refine sort_src hc hu I (xs.map fun q => (kT q.1, V.ref q.2.1)) (d := a) (T := "dict") (P := fun i v => ∃ hi : i < es.size, v = es[i].key) (OK := fun h => h.DictRaw a es ep) ?_ ⟨o, h1, h2, h3⟩ (by rw [List.length_map, ← hl]; exact z) (fun j v hj => ?_) (fun p hp => ?_) (by rw [e1]; exact ok) (fun p hp => q _ e1 (fun p hp => ?_) p hp)
  · rw [List.length_map, ← hes]
    exact PySem.KdlSrc.rawDict lo
  · obtain ⟨hj, rfl⟩ := hj
    have hx : j < xs.length := by omega
    refine ⟨(kT xs[j].1, .ref xs[j].2.1), by rw [List.getElem?_map, List.getElem?_eq_getElem hx]; rfl, ?_⟩
    have : es.toList[j]? = some es[j] := by rw [Array.getElem?_toList, Array.getElem?_eq_getElem hj]
    rw [h4, List.getElem?_map, List.getElem?_eq_getElem hx] at this
    have e2 := Option.some.inj this
    rw [← e2]
    exact rfl
  · obtain ⟨x, hx, rfl⟩ := List.mem_map.mp hp
    exact Is.dp (G := ⟨X.K, X.mg, []⟩) 50 _ _ (sortOk_plain ok _ (by rw [← m1]; exact List.mem_map_of_mem hx)) (is_kT (m2 x hx))
  · obtain ⟨x, hx, rfl⟩ := List.mem_map.mp hp
    exact ⟨_, _, rfl, m2 x hx⟩
def sortKTW : D → W D := fun x Q _ => match x with | .dtt ks _ => sortOk (ks.map kT) = true ∧ Q (.lst (sortD (ks.map kT))) | _ => False
theorem tps_tup {F H : Hp} (fh : Ex F (hid G.pl H)) {a : Addr} {xs : List V} (e : H a = some (.tup xs)) : DL.tps F H a = some (.tup xs) := by
  unfold DL.tps
  cases e2 : F a with
  | none => simp [e]
  | some o =>
    have := (hid_some (fh a o e2)).2
    rw [e] at this
    cases this
    rfl
theorem uns_sortKT {k1 : Kd} : UnS G k1 (.n 1) (fun v H Q => rSortKT [v] H Q) sortKTW := by
  intro F H fh po x v hx Qd Ed Q hw hq
  cases x <;> try exact hw.elim
  rename_i ks ds
  obtain ⟨ok, hw⟩ := hw
  obtain ⟨a, vs, rfl, h1, h2, h3⟩ := hx.at fh
  subst h2
  rw [List.map_map] at ok hw
  refine ⟨a, vs, rfl, h1, ok, fun ps e1 hps p hp => ?_⟩
  have g := Gr.tps fh po
  have i3 := is_of_zip (G := G) (H := DL.tps F H) (ps := ps.mergeSort leP) fun p hp => by
    obtain ⟨b, k, rfl, hb⟩ := hps p ((List.mergeSort_perm _ _).mem_iff.mp hp)
    exact is_kT (tps_tup fh hb)
  rw [sort_fst, e1] at i3
  exact fin_lst g.fh po (fun d z F2 H2 g2 k q => hq d z F2 H2 (g.trans g2) k q) i3 hw hp
end
section
variable {Q : D → Prop} {E : Xn → Prop}
theorem o_sortKT {ks : List (List Key)} {ds : List D} : sortKTW (.dtt ks ds) Q E = (sortOk (ks.map kT) = true ∧ Q (.lst (sortD (ks.map kT)))) := nr rfl
end
end DL

namespace DL
open PySem PySem.Spec PyProof.Rows L2

/-! ### a table of whole numbers that the module holds -/
structure TupGlo (K : PySem.W.Frag) (mg : Str → Option Value) (x : Str) (is : List Int) : Prop where
  ex : ∃ a, mg x = some (.ref a) ∧ ∀ H, SqT K H a (is.map V.int)
def ixGW (is : List Int) (we : Env → W D) : Env → W D := fun ρ Q E => we ρ (fun y => match y with | .int i => (match is[i.toNat]? with | some j => 0 ≤ i ∧ Q (.int j) | none => False) | _ => False) E
section
variable {X : Cx} {C : Cf} {M : List Md} {Wx : WX} {pos p : Pos}
theorem de_ixG {x : Str} {is : List Int} {e : Expr} {we : Env → W D} (hT : TupGlo X.K X.mg x is) (hg : Gl X x) (he : DE X C M Wx .v e we) (hpl : PlainIx e) (hd : (x == ("__debug__" : Str)) = false := by decide) : DE X C M Wx .v (.Subscript (.Name x p) e pos) (ixGW is we) := by
  obtain ⟨a, hm, hs⟩ := hT.ex
  obtain ⟨te, pe, se⟩ := he.ex
  refine ⟨_, pe_ix ix_tup (pe_glob (v := .ref a) hg hm rfl hd) pe hpl, fun F H σ ρ s Qd Ed Q hw hq hx => ?_⟩
  refine se F H σ ρ s _ Ed _ hw (fun d v F1 H1 g1 i1 hw2 => ?_) hx
  cases d <;> try exact hw2.elim
  rename_i i
  replace hw2 : match is[i.toNat]? with | some j => 0 ≤ i ∧ Qd (.int j) | none => False := hw2
  split at hw2
  · rename_i j ej
    have hlt := (List.getElem?_eq_some_iff.mp ej).1
    refine ⟨a, is.map V.int, i, .int j, rfl, i1, hs H1, ?_, hq (.int j) _ F1 H1 g1 rfl hw2.2⟩
    unfold L2.atI L2.ixN
    rw [List.length_map, if_pos hw2.1, if_pos (by omega)]
    show (is.map V.int)[i.toNat]? = _
    rw [List.getElem?_map, ej]
    rfl
  · exact hw2.elim
end
section
variable {Q : D → Prop} {E : Xn → Prop} {ρ : Env}
def kIG (is : List Int) (Q : D → Prop) : D → Prop | .int i => (match is[i.toNat]? with | some j => 0 ≤ i ∧ Q (.int j) | none => False) | _ => False
theorem k_ixG {is : List Int} {we : Env → W D} : ixGW is we ρ Q E = we ρ (kIG is Q) E := by unfold ixGW; congr 1
theorem kIG_e {is : List Int} {i : Int} : kIG is Q (.int i) = (match is[i.toNat]? with | some j => 0 ≤ i ∧ Q (.int j) | none => False) := nr rfl
end

/-! ### the Hook, with one more check -/
abbrev AlM : Type := He.AlD × Bool
def obsM (n : Nat) (fa : List He.Fa) (fn : List He.DefD) (ex : PySem.W.Frag → Bool) (g : Addr → Option Obj) : AlM := (He.obsD fa fn (He.frG g (He.asD g n)), ex (He.frG g (He.asD g n)))
structure SaysM (fa : List He.Fa) (fn : List He.DefD) (ex : PySem.W.Frag → Bool) (K : PySem.W.Frag) : Prop where
  t : He.SaysD fa fn K
  more : ex K = true
def hookM (n : Nat) (fa : List He.Fa) (fn : List He.DefD) (ex : PySem.W.Frag → Bool) : PySem.W.Hook where
  α := AlM
  obs := fun s => obsM n fa fn ex s.heap.get?
  val := fun _ => (He.valD fn, true)
  says := fun _ h => ∃ K : PySem.W.Frag, K.In h ∧ SaysM fa fn ex K
  of := fun _ _ e => ⟨_, He.frG_in, ⟨congrArg (fun z : AlM => z.1) e, congrArg (fun z : AlM => z.2) e⟩⟩
  keeps := fun _ _ _ ⟨K, hK, c⟩ k => ⟨K, PySem.W.Frag.In.keeps hK k, c⟩
theorem obsM_eq {n : Nat} {fa : List He.Fa} {fn : List He.DefD} {ex : PySem.W.Frag → Bool} {g : Addr → Option Obj} {s : Shared} (h : ∀ a, g a = s.heap.get? a) : obsM n fa fn ex g = (hookM n fa fn ex).obs s := by
  have e : g = s.heap.get? := funext h
  rw [e] <;> rfl
end DL

namespace DL
open PySem PySem.Spec PyProof.Rows L2

theorem hu0 {k : Nat} {A : Around} (hr : Room k A) : A.units < cLine := by have := hr.un; omega
/-! ### target = xs.pop() -/
def popW (i : Nat) (t : D → Env → W Env) : Env → W Fl := fun ρ Q E => lstAt ρ i fun xs => match xs.getLast? with | some d => t d (ρ.set i (some (.lst xs.dropLast))) (fun ρ' => Q (.next ρ')) E | none => False
section
variable {X : Cx} {C : Cf} {Ml M M1 M' : List Md} {rk : Kd} {Wx : WX} {pos apos cpos p p2 : Pos} {G : Gx}
theorem is_dropLast {H : Hp} : ∀ {ds : List D} {vs : List V}, IsL G H ds vs → IsL G H ds.dropLast vs.dropLast
  | [], _, h => by rw [show _ = [] from h]; rfl
  | [d], _, h => by
    obtain ⟨v, r, rfl, h1, h2⟩ := h
    rw [show r = [] from h2]
    rfl
  | d :: d2 :: ds, _, h => by
    obtain ⟨v, r, rfl, h1, v2, r2, rfl, h2, h3⟩ := h
    exact ⟨v, _, rfl, h1, is_dropLast (ds := d2 :: ds) ⟨v2, r2, rfl, h2, h3⟩⟩
theorem ds_popT {i : Nat} {x : Str} {is : List Nat} {tg : Expr} {t : D → Env → W Env} (hM : ownAt M i = some 1) (hN : X.N[i]? = some x) (hv : Vis X.env.scope x) (hg : DG X C M is tg t) (hd : (x == ("__debug__" : Str)) = false := by decide) (hcd : (x == ("__classdict__" : Str)) = false := by decide)
    (hline : (apos.endLine == cpos.line) = true := by rfl)
    (hbase : attributeBase (.Name x p2) "pop" X.env (eval (.Name x p2) X.env) = eval (.Name x p2) X.env := by rfl)
    (hs : swapsWithSole [tg] (.Call (.Attribute (.Name x p2) "pop" apos) [] [] cpos) pos.line X.env = pure false := by rfl) (hw : swappedStores [tg] (.Call (.Attribute (.Name x p2) "pop" apos) [] [] cpos) X.env = pure none := by rfl)
    (h1 : (assignEach [tg] X.env).map (·.2) = [assign tg X.env] := by rfl) :
    DS X C Ml rk Wx M M (.Assign [tg] (.Call (.Attribute (.Name x p2) "pop" apos) [] [] cpos) pos) (popW i t) := by
  obtain ⟨g, pg, sg⟩ := hg.ex
  refine ⟨_, ps_asg (pe_bm0 PySem.F.plainAttrs_list PySem.F.slot_list_pop PySem.F.type_list_pop mt_pop (pe_var hN hv hd hcd) hbase hline) pg hs hw h1, fun F H σ ρ r Qd Ed D_ hw hn _ _ _ hx => ?_⟩
  obtain ⟨xs, e0, hw⟩ := lstAt_some hw
  obtain ⟨v, fp, e1, o1, nd, out, fin⟩ := r.mut (Gr.refl r.base.fh r.base.pool) hM e0
  obtain ⟨l, vs, r1, rfl, q1, q2, q3, rfl⟩ := own_lst o1
  obtain ⟨i3, rfl⟩ := zero_own q3
  cases el : xs.getLast? with
  | none => rw [el] at hw; exact hw.elim
  | some d =>
    rw [el] at hw
    rw [List.getLast?_eq_getElem?] at el
    obtain ⟨y, ey, iy⟩ := i3.get el
    have hlen := i3.len
    refine ⟨.ref l, e1, .inl ⟨rfl, vs, .inl (.inl q2)⟩, l, vs, y, rfl, rfl, q2, by rw [hlen]; exact ey, ?_⟩
    have s2 := fin (upd H l (.lst vs.dropLast)) (.lst xs.dropLast) [l] (fun a o ha e => by rw [upd_ne (fun z => ha (by simp [z]))]; exact e) ⟨l, vs.dropLast, [], rfl, q1, upd_same, OwnL.of (is_dropLast i3), rfl⟩ nd fun a ha => .inl ha
    exact sg F _ σ _ s2 d y iy _ Ed _ hw fun σ' ρ' s' _ _ q' => hn σ' ρ' F _ (Ex.refl F) s' q'
end
section
variable {QF : Fl → Prop} {E : Xn → Prop} {ρ : Env} {i : Nat} {t : D → Env → W Env}
def kPop (i : Nat) (t : D → Env → W Env) (ρ : Env) (QF : Fl → Prop) (E : Xn → Prop) (xs : List D) : Prop := match xs.getLast? with | some d => t d (ρ.set i (some (.lst xs.dropLast))) (kNx QF) E | none => False
theorem k_pop : popW i t ρ QF E = kLA (kPop i t ρ QF E) ρ[i]? := by
  unfold popW; rw [lstAt_k]; congr 1
theorem kPop_e {xs : List D} {d : D} : kPop i t ρ QF E (xs ++ [d]) = t d (ρ.set i (some (.lst xs))) (kNx QF) E := by
  unfold kPop; rw [List.getLast?_concat, List.dropLast_concat]
end
section
variable {Q : D → Prop} {E : Xn → Prop} {ρ : Env}
def kDc (vs : List Nat) (tg : D → Env → W Env) (wt : Env → W Bool) (wk wv : Env → W D) (ρ : Env) (Q : D → Prop) : List D → Prop := fun ds => dcL tg wt wk wv (wipeD ρ vs) ds [] [] (fun ks xs => Q (.dtt ks xs))
theorem k_dc {vs : List Nat} {wi : Env → W (List D)} {tg : D → Env → W Env} {wt : Env → W Bool} {wk wv : Env → W D} : dcW vs wi tg wt wk wv ρ Q E = wi ρ (kDc vs tg wt wk wv ρ Q) E := nr rfl
theorem kDc_e {vs : List Nat} {tg : D → Env → W Env} {wt : Env → W Bool} {wk wv : Env → W D} {ds : List D} : kDc vs tg wt wk wv ρ Q ds = dcL tg wt wk wv (wipeD ρ vs) ds [] [] (fun ks xs => Q (.dtt ks xs)) := nr rfl
end
end DL

namespace DL
open PySem PySem.Spec PyProof.Rows L2

/-! ### meanings that can be run -/
inductive Res (α : Type) where
  | ok (a : α) | ex (x : Xn) | bad
def Res.bind {α β : Type} : Res α → (α → Res β) → Res β
  | .ok a, f => f a
  | .ex x, _ => .ex x
  | .bad, _ => .bad
/-- no exception is let through -/
def Res.calm {α : Type} : Res α → Res α
  | .ok a => .ok a
  | _ => .bad
def Res.post {α : Type} (r : Res α) (Q : α → Prop) (E : Xn → Prop) : Prop := match r with
  | .ok a => Q a
  | .ex x => E x
  | .bad => False
def Res.iff {α : Type} (c : Bool) (r : Res α) : Res α := if c = true then r else .bad
def Res.opt {α : Type} : Option α → Res α
  | some a => .ok a
  | none => .bad
theorem post_bind {α β : Type} {r : Res α} {f : α → Res β} {Q : β → Prop} {E : Xn → Prop} : (r.bind f).post Q E = r.post (fun a => (f a).post Q E) E := by cases r <;> rfl
theorem post_mono {α : Type} {r : Res α} {Q Q' : α → Prop} {E E' : Xn → Prop} (h : r.post Q E) (k : ∀ a, Q a → Q' a) (e : ∀ x, E x → E' x) : r.post Q' E' := by
  cases r with
  | ok a => exact k a h
  | ex x => exact e x h
  | bad => exact h
theorem post_calm {α : Type} {r : Res α} {Q : α → Prop} {E E' : Xn → Prop} (h : r.calm.post Q E) : r.post Q E' := by cases r <;> first | exact h | exact h.elim
theorem post_iff {α : Type} {c : Bool} {r : Res α} {Q : α → Prop} {E : Xn → Prop} (h : (Res.iff c r).post Q E) : c = true ∧ r.post Q E := by
  unfold Res.iff at h
  by_cases hc : c = true
  · rw [if_pos hc] at h; exact ⟨hc, h⟩
  · rw [if_neg hc] at h; exact h.elim
theorem post_opt {α : Type} {o : Option α} {Q : α → Prop} {E : Xn → Prop} (h : (Res.opt o).post Q E) : ∃ a, o = some a ∧ Q a := by
  cases o with
  | none => exact h.elim
  | some a => exact ⟨a, rfl, h⟩
class RunE {α : Type} (w : Env → W α) where
  x : Env → Res α
  ok : ∀ ρ Q E, (x ρ).post Q E → w ρ Q E
class Run1 (f : D → W D) where
  x : D → Res D
  ok : ∀ d Q E, (x d).post Q E → f d Q E
class Run2 (f : D → D → W D) where
  x : D → D → Res D
  ok : ∀ d e Q E, (x d e).post Q E → f d e Q E
class RunL (m : List D → W D) where
  x : List D → Res D
  ok : ∀ d Q E, (x d).post Q E → m d Q E
class RunG (t : D → Env → W Env) where
  x : D → Env → Res Env
  ok : ∀ d ρ Q E, (x d ρ).post Q E → t d ρ Q E
class RunGs (t : List D → Env → W Env) where
  x : List D → Env → Res Env
  ok : ∀ d ρ Q E, (x d ρ).post Q E → t d ρ Q E

/-! ### expressions -/
section
variable {wa wb wc : Env → W D} {f : D → W D} {g g' : D → D → W D} {ws : Env → W (List D)} {m : List D → W D} {ta tb : Env → W Bool} {s t : Env → W Fl} {tg : D → Env → W Env} {u : List D → Env → W Env}
def varX (i : Nat) (ρ : Env) : Res D := match ρ[i]? with | some (some d) => .ok d | _ => .bad
instance {i : Nat} : RunE (varW i) where
  x := varX i
  ok := fun ρ Q E h => by
    unfold varX at h
    unfold varW
    split at h
    · rename_i d e
      try rw [e]
      exact h
    · exact h.elim
instance {d : D} : RunE (cW d) where
  x := fun _ => .ok d
  ok := fun ρ Q E h => h
instance [ha : RunE wa] [hf : Run1 f] : RunE (unW f wa) where
  x := fun ρ => (ha.x ρ).bind hf.x
  ok := fun ρ Q E h => by
    rw [post_bind] at h
    exact ha.ok _ _ _ (post_mono h (fun a q => hf.ok _ _ _ q) fun _ e => e)
instance [ha : RunE wa] [hb : RunE wb] [hf : Run2 g] : RunE (binW g wa wb) where
  x := fun ρ => (ha.x ρ).bind fun a => (hb.x ρ).bind fun b => hf.x a b
  ok := fun ρ Q E h => by
    rw [post_bind] at h
    refine ha.ok _ _ _ (post_mono h (fun a q => ?_) fun _ e => e)
    rw [post_bind] at q
    exact hb.ok _ _ _ (post_mono q (fun b q => hf.ok _ _ _ _ q) fun _ e => e)
instance : RunE nilW where
  x := fun _ => .ok []
  ok := fun ρ Q E h => h
instance [ha : RunE wa] [hb : RunE ws] : RunE (consW wa ws) where
  x := fun ρ => (ha.x ρ).bind fun a => (hb.x ρ).bind fun b => .ok (a :: b)
  ok := fun ρ Q E h => by
    rw [post_bind] at h
    refine ha.ok _ _ _ (post_mono h (fun a q => ?_) fun _ e => e)
    rw [post_bind] at q
    exact hb.ok _ _ _ q
instance [ha : RunE ws] [hf : RunL m] : RunE (appW m ws) where
  x := fun ρ => (ha.x ρ).bind hf.x
  ok := fun ρ Q E h => by
    rw [post_bind] at h
    exact ha.ok _ _ _ (post_mono h (fun a q => hf.ok _ _ _ q) fun _ e => e)
instance [hf : RunL m] : RunE (call0W m) where
  x := fun _ => (hf.x []).calm
  ok := fun ρ Q E h => hf.ok _ _ _ (post_calm h)
def blX : D → Res Bool | .bl b => .ok b | _ => .bad
instance [ha : RunE wa] : RunE (blW wa) where
  x := fun ρ => (ha.x ρ).bind blX
  ok := fun ρ Q E h => by
    rw [post_bind] at h
    refine ha.ok _ _ _ (post_mono h (fun a q => ?_) fun _ e => e)
    cases a <;> first | exact q | exact q.elim
def trX : D → Res Bool | .bl b => .ok b | .int i => .ok (i != 0) | .non => .ok false | _ => .bad
instance [ha : RunE wa] : RunE (trW wa) where
  x := fun ρ => (ha.x ρ).bind trX
  ok := fun ρ Q E h => by
    rw [post_bind] at h
    refine ha.ok _ _ _ (post_mono h (fun a q => ?_) fun _ e => e)
    cases a <;> first | exact q | exact q.elim
instance [ha : RunE ta] : RunE (notT ta) where
  x := fun ρ => (ha.x ρ).bind fun b => .ok (!b)
  ok := fun ρ Q E h => by
    rw [post_bind] at h
    exact ha.ok _ _ _ h
instance [ha : RunE ta] [hb : RunE tb] : RunE (andT ta tb) where
  x := fun ρ => (ha.x ρ).bind fun b => match b with | true => hb.x ρ | false => .ok false
  ok := fun ρ Q E h => by
    rw [post_bind] at h
    refine ha.ok _ _ _ (post_mono h (fun b q => ?_) fun _ e => e)
    cases b
    · exact q
    · exact hb.ok _ _ _ q
instance [ha : RunE ta] [hb : RunE tb] : RunE (orT ta tb) where
  x := fun ρ => (ha.x ρ).bind fun b => match b with | true => .ok true | false => hb.x ρ
  ok := fun ρ Q E h => by
    rw [post_bind] at h
    refine ha.ok _ _ _ (post_mono h (fun b q => ?_) fun _ e => e)
    cases b
    · exact hb.ok _ _ _ q
    · exact q
instance [ha : RunE wa] [hb : RunE wb] : RunE (andV wa wb) where
  x := fun ρ => (ha.x ρ).bind fun a => match a with | .bl true => hb.x ρ | .bl false => .ok (.bl false) | _ => .bad
  ok := fun ρ Q E h => by
    rw [post_bind] at h
    refine ha.ok _ _ _ (post_mono h (fun a q => ?_) fun _ e => e)
    cases a <;> try exact q.elim
    rename_i b
    cases b
    · exact q
    · exact hb.ok _ _ _ q
instance [ha : RunE wa] [hb : RunE wb] : RunE (orV wa wb) where
  x := fun ρ => (ha.x ρ).bind fun a => match a with | .bl true => .ok (.bl true) | .bl false => hb.x ρ | _ => .bad
  ok := fun ρ Q E h => by
    rw [post_bind] at h
    refine ha.ok _ _ _ (post_mono h (fun a q => ?_) fun _ e => e)
    cases a <;> try exact q.elim
    rename_i b
    cases b
    · exact hb.ok _ _ _ q
    · exact q
def notX : D → Res D | .bl b => .ok (.bl (!b)) | _ => .bad
instance [ha : RunE wa] : RunE (notV wa) where
  x := fun ρ => (ha.x ρ).bind notX
  ok := fun ρ Q E h => by
    rw [post_bind] at h
    refine ha.ok _ _ _ (post_mono h (fun a q => ?_) fun _ e => e)
    cases a <;> first | exact q | exact q.elim
instance [ht : RunE ta] [ha : RunE wa] [hb : RunE wb] : RunE (ifW ta wa wb) where
  x := fun ρ => (ht.x ρ).bind fun b => match b with | true => ha.x ρ | false => hb.x ρ
  ok := fun ρ Q E h => by
    rw [post_bind] at h
    refine ht.ok _ _ _ (post_mono h (fun b q => ?_) fun _ e => e)
    cases b
    · exact hb.ok _ _ _ q
    · exact ha.ok _ _ _ q
instance [ha : RunE ws] : RunE (tupW ws) where
  x := fun ρ => (ha.x ρ).bind fun a => .ok (.tup a)
  ok := fun ρ Q E h => by rw [post_bind] at h; exact ha.ok _ _ _ h
instance [ha : RunE ws] : RunE (lstW ws) where
  x := fun ρ => (ha.x ρ).bind fun a => .ok (.lst a)
  ok := fun ρ Q E h => by rw [post_bind] at h; exact ha.ok _ _ _ h
instance [ha : RunE wa] : RunE (upW wa) where
  x := fun ρ => (ha.x ρ).bind fun a => Res.iff (im a) (.ok a)
  ok := fun ρ Q E h => by
    rw [post_bind] at h
    exact ha.ok _ _ _ (post_mono h (fun a q => post_iff q) fun _ e => e)
instance : RunE noPartW where
  x := fun _ => .ok none
  ok := fun ρ Q E h => h
def partX : D → Res (Option Int) | .int i => .ok (some i) | _ => .bad
instance [ha : RunE wa] : RunE (partW wa) where
  x := fun ρ => (ha.x ρ).bind partX
  ok := fun ρ Q E h => by
    rw [post_bind] at h
    refine ha.ok _ _ _ (post_mono h (fun a q => ?_) fun _ e => e)
    cases a <;> first | exact q | exact q.elim
instance {wl wh : Env → W (Option Int)} [ha : RunE wa] [hl : RunE wl] [hh : RunE wh] : RunE (sliceW wa wl wh) where
  x := fun ρ => (ha.x ρ).bind fun a => (hl.x ρ).bind fun lo => (hh.x ρ).bind fun hi => Res.opt (sliceB lo hi a)
  ok := fun ρ Q E h => by
    rw [post_bind] at h
    refine ha.ok _ _ _ (post_mono h (fun a q => ?_) fun _ e => e)
    rw [post_bind] at q
    refine hl.ok _ _ _ (post_mono q (fun lo q => ?_) fun _ e => e)
    rw [post_bind] at q
    refine hh.ok _ _ _ (post_mono q (fun hi q => ?_) fun _ e => e)
    obtain ⟨d, e, q⟩ := post_opt q
    rw [e]
    exact q
instance [ha : RunE wa] [hb : RunE wb] [hc : RunE wc] [hf : Run2 g] [hf' : Run2 g'] : RunE (chainW g g' wa wb wc) where
  x := fun ρ => (ha.x ρ).bind fun a => (hb.x ρ).bind fun b => (hf.x a b).bind fun z => match z with | .bl true => (hc.x ρ).bind fun c => hf'.x b c | .bl false => .ok (.bl false) | _ => .bad
  ok := fun ρ Q E h => by
    rw [post_bind] at h
    refine ha.ok _ _ _ (post_mono h (fun a q => ?_) fun _ e => e)
    rw [post_bind] at q
    refine hb.ok _ _ _ (post_mono q (fun b q => ?_) fun _ e => e)
    rw [post_bind] at q
    refine hf.ok _ _ _ _ (post_mono q (fun z q => ?_) fun _ e => e)
    cases z <;> try exact q.elim
    rename_i k
    cases k
    · exact q
    · replace q : ((hc.x ρ).bind fun c => hf'.x b c).post Q E := q
      rw [post_bind] at q
      show wc ρ (fun w => g' b w Q E) E
      exact hc.ok _ _ _ (post_mono q (fun c q => hf'.ok _ _ _ _ q) fun _ e => e)
def ixGX (is : List Int) : D → Res D | .int i => (match is[i.toNat]? with | some j => Res.iff (decide (0 ≤ i)) (.ok (.int j)) | none => .bad) | _ => .bad
instance {is : List Int} [ha : RunE wa] : RunE (ixGW is wa) where
  x := fun ρ => (ha.x ρ).bind (ixGX is)
  ok := fun ρ Q E h => by
    rw [post_bind] at h
    refine ha.ok _ _ _ (post_mono h (fun a q => ?_) fun _ e => e)
    cases a <;> try exact q.elim
    rename_i i
    show match is[i.toNat]? with | some j => 0 ≤ i ∧ Q (.int j) | none => False
    replace q : (match is[i.toNat]? with | some j => Res.iff (decide (0 ≤ i)) (.ok (.int j)) | none => .bad : Res D).post Q E := q
    cases e : is[i.toNat]? with
    | none => rw [e] at q; exact q.elim
    | some j =>
      rw [e] at q
      obtain ⟨h1, h2⟩ := post_iff q
      exact ⟨of_decide_eq_true h1, h2⟩

/-! ### what is gone through -/
def seqX (x : D) : Res (List D) := Res.opt (seqB x)
instance [ha : RunE wa] : RunE (seqI wa) where
  x := fun ρ => (ha.x ρ).bind seqX
  ok := fun ρ Q E h => by
    rw [post_bind] at h
    refine ha.ok _ _ _ (post_mono h (fun a q => ?_) fun _ e => e)
    obtain ⟨d, e, q⟩ := post_opt q
    rw [e]
    exact q
instance [ha : RunE wa] : RunE (seqIr wa) where
  x := fun ρ => (ha.x ρ).bind fun a => (seqX a).bind fun xs => Res.iff (imL xs) (.ok xs)
  ok := fun ρ Q E h => by
    rw [post_bind] at h
    refine ha.ok _ _ _ (post_mono h (fun a q => ?_) fun _ e => e)
    rw [post_bind] at q
    obtain ⟨d, e, q⟩ := post_opt q
    rw [e]
    exact post_iff q
instance [ha : RunE wa] : RunE (enumI wa) where
  x := fun ρ => (ha.x ρ).bind fun a => (seqX a).bind fun xs => .ok (enumD xs)
  ok := fun ρ Q E h => by
    rw [post_bind] at h
    refine ha.ok _ _ _ (post_mono h (fun a q => ?_) fun _ e => e)
    rw [post_bind] at q
    obtain ⟨d, e, q⟩ := post_opt q
    rw [e]
    exact q
def rng1X : D → Res (List D) | .int j => Res.iff (decide (-(2 ^ 62) ≤ j) && decide (j ≤ 16777216)) (.ok (rngD 0 j.toNat)) | _ => .bad
instance [ha : RunE wa] : RunE (rangeI1 wa) where
  x := fun ρ => (ha.x ρ).bind rng1X
  ok := fun ρ Q E h => by
    rw [post_bind] at h
    refine ha.ok _ _ _ (post_mono h (fun a q => ?_) fun _ e => e)
    cases a <;> try exact q.elim
    obtain ⟨h1, h2⟩ := post_iff q
    simp only [Bool.and_eq_true, decide_eq_true_eq] at h1
    exact ⟨h1, h2⟩
def rngB (i j : Int) : Bool := decide (-(2 ^ 62) ≤ i) && decide (i < 2 ^ 62) && decide (-(2 ^ 62) ≤ j) && decide (j < 2 ^ 62) && decide (j - i ≤ 16777216)
theorem rngB_ok {i j : Int} (h : rngB i j = true) : -(2 ^ 62) ≤ i ∧ i < 2 ^ 62 ∧ -(2 ^ 62) ≤ j ∧ j < 2 ^ 62 ∧ j - i ≤ 16777216 := by
  unfold rngB at h
  simp only [Bool.and_eq_true, decide_eq_true_eq] at h
  obtain ⟨⟨⟨⟨h1, h2⟩, h3⟩, h4⟩, h5⟩ := h
  exact ⟨h1, h2, h3, h4, h5⟩
def rng2X : D → D → Res (List D) | .int i, .int j => Res.iff (rngB i j) (.ok (rngD i (j - i).toNat)) | _, _ => .bad
instance [ha : RunE wa] [hb : RunE wb] : RunE (rangeI2 wa wb) where
  x := fun ρ => (ha.x ρ).bind fun a => (hb.x ρ).bind fun b => rng2X a b
  ok := fun ρ Q E h => by
    rw [post_bind] at h
    refine ha.ok _ _ _ (post_mono h (fun a q => ?_) fun _ e => e)
    rw [post_bind] at q
    refine hb.ok _ _ _ (post_mono q (fun b q => ?_) fun _ e => e)
    cases a <;> try exact q.elim
    cases b <;> try exact q.elim
    obtain ⟨h1, h2⟩ := post_iff q
    exact ⟨rngB_ok h1, h2⟩
def rngHX : D → Res (List D) | .rng i j => Res.iff (rngB i j) (.ok (rngD i (j - i).toNat)) | _ => .bad
instance [ha : RunE wa] : RunE (rngHI wa) where
  x := fun ρ => (ha.x ρ).bind rngHX
  ok := fun ρ Q E h => by
    rw [post_bind] at h
    refine ha.ok _ _ _ (post_mono h (fun a q => ?_) fun _ e => e)
    cases a <;> try exact q.elim
    obtain ⟨h1, h2⟩ := post_iff q
    exact ⟨rngB_ok h1, h2⟩
def zipX : D → D → Res (List D) | .lst xs, .lst ys => .ok (zipD xs ys) | .tup xs, .tup ys => .ok (zipD xs ys) | _, _ => .bad
instance [ha : RunE wa] [hb : RunE wb] : RunE (zipI wa wb) where
  x := fun ρ => (ha.x ρ).bind fun a => (hb.x ρ).bind fun b => zipX a b
  ok := fun ρ Q E h => by
    rw [post_bind] at h
    refine ha.ok _ _ _ (post_mono h (fun a q => ?_) fun _ e => e)
    rw [post_bind] at q
    refine hb.ok _ _ _ (post_mono q (fun b q => ?_) fun _ e => e)
    cases a <;> try exact q.elim
    all_goals cases b <;> first | exact q | exact q.elim

/-! ### targets -/
instance {i : Nat} : RunG (tName i) where
  x := fun d ρ => .ok (ρ.set i (some d))
  ok := fun d ρ Q E h => h
instance : RunGs tNil' where
  x := fun ds ρ => match ds with | [] => .ok ρ | _ => .bad
  ok := fun d ρ Q E h => by cases d <;> first | exact h | exact h.elim
instance [ht : RunG tg] [hu : RunGs u] : RunGs (tCons' tg u) where
  x := fun ds ρ => match ds with | d :: r => (ht.x d ρ).bind fun ρ1 => hu.x r ρ1 | [] => .bad
  ok := fun ds ρ Q E h => by
    cases ds with
    | nil => exact h.elim
    | cons d r =>
      replace h : ((ht.x d ρ).bind fun ρ1 => hu.x r ρ1).post Q E := h
      rw [post_bind] at h
      exact ht.ok _ _ _ _ (post_mono h (fun ρ1 q => hu.ok _ _ _ _ q) fun _ e => e)
instance [hu : RunGs u] : RunG (tTup' u) where
  x := fun d ρ => match d with | .tup ds => hu.x ds ρ | _ => .bad
  ok := fun d ρ Q E h => by
    cases d <;> try exact h.elim
    exact hu.ok _ _ _ _ h

/-! ### comprehensions -/
instance : RunE yesW where
  x := fun _ => .ok true
  ok := fun ρ Q E h => h
def compX (tx : D → Env → Res Env) (bx : Env → Res Bool) (ex : Env → Res D) (ρ0 : Env) : List D → Res (List D)
  | [] => .ok []
  | d :: r => (tx d ρ0).bind fun ρ1 => (bx ρ1).bind fun b => match b with
    | true => (ex ρ1).bind fun a => (compX tx bx ex ρ0 r).bind fun as => .ok (a :: as)
    | false => compX tx bx ex ρ0 r
theorem compX_ok [ht : RunG tg] [hb : RunE ta] [he : RunE wa] (ρ0 : Env) : ∀ (ds : List D) (Q : List D → Prop) (E : Xn → Prop), (compX ht.x hb.x he.x ρ0 ds).post Q E → compL tg ta wa ρ0 ds Q E
  | [], Q, E, h => h
  | d :: r, Q, E, h => by
    unfold compX at h
    rw [post_bind] at h
    unfold compL
    refine ht.ok _ _ _ _ (post_mono h (fun ρ1 q => ?_) fun _ e => e)
    rw [post_bind] at q
    refine hb.ok _ _ _ (post_mono q (fun b q => ?_) fun _ e => e)
    cases b with
    | true =>
      rw [if_pos rfl]
      replace q : ((he.x ρ1).bind fun a => (compX ht.x hb.x he.x ρ0 r).bind fun as => .ok (a :: as)).post Q E := q
      rw [post_bind] at q
      refine he.ok _ _ _ (post_mono q (fun a q => ?_) fun _ e => e)
      rw [post_bind] at q
      exact compX_ok ρ0 r _ _ q
    | false =>
      rw [if_neg Bool.false_ne_true]
      exact compX_ok ρ0 r _ _ q
instance {vs : List Nat} [hi : RunE ws] [ht : RunG tg] [hb : RunE ta] [he : RunE wa] : RunE (compW vs ws tg ta wa) where
  x := fun ρ => (hi.x ρ).bind fun ds => ((compX ht.x hb.x he.x (wipeD ρ vs) ds).calm).bind fun r => .ok (.lst r)
  ok := fun ρ Q E h => by
    rw [post_bind] at h
    refine hi.ok _ _ _ (post_mono h (fun ds q => ?_) fun _ e => e)
    rw [post_bind] at q
    exact compX_ok _ _ _ _ (post_calm q)
def dcX (tx : D → Env → Res Env) (bx : Env → Res Bool) (kx vx : Env → Res D) (ρ0 : Env) : List D → List (List Key) → List D → Res (List (List Key) × List D)
  | [], ks, xs => .ok (ks, xs)
  | d :: r, ks, xs => (tx d ρ0).bind fun ρ1 => (bx ρ1).bind fun b => match b with
    | true => (kx ρ1).bind fun y => (vx ρ1).bind fun z => match y with
      | .tup ys => (match keysOf ys with
        | some k => Res.iff (decide (ks.length < 16777216)) (dcX tx bx kx vx ρ0 r (putD ks xs k z).1 (putD ks xs k z).2)
        | none => .bad)
      | _ => .bad
    | false => dcX tx bx kx vx ρ0 r ks xs
theorem dcX_ok [ht : RunG tg] [hb : RunE ta] [hk : RunE wa] [hv : RunE wb] (ρ0 : Env) : ∀ (ds : List D) (ks : List (List Key)) (xs : List D) (Q : List (List Key) → List D → Prop), (dcX ht.x hb.x hk.x hv.x ρ0 ds ks xs).post (fun p => Q p.1 p.2) noX → dcL tg ta wa wb ρ0 ds ks xs Q
  | [], ks, xs, Q, h => h
  | d :: r, ks, xs, Q, h => by
    unfold dcX at h
    rw [post_bind] at h
    unfold dcL
    refine ht.ok _ _ _ _ (post_mono h (fun ρ1 q => ?_) fun _ e => e)
    rw [post_bind] at q
    refine hb.ok _ _ _ (post_mono q (fun b q => ?_) fun _ e => e)
    cases b with
    | false =>
      rw [if_neg Bool.false_ne_true]
      exact dcX_ok ρ0 r ks xs _ q
    | true =>
      rw [if_pos rfl]
      dsimp only at q
      rw [post_bind] at q
      refine hk.ok _ _ _ (post_mono q (fun y q => ?_) fun _ e => e)
      rw [post_bind] at q
      refine hv.ok _ _ _ (post_mono q (fun z q => ?_) fun _ e => e)
      cases y <;> try exact q.elim
      rename_i ys _
      dsimp only at q ⊢
      cases e : keysOf ys with
      | none => rw [e] at q; exact q.elim
      | some k =>
        rw [e] at q
        obtain ⟨h1, h2⟩ := post_iff q
        exact ⟨of_decide_eq_true h1, dcX_ok ρ0 r _ _ _ h2⟩
instance {vs : List Nat} [hi : RunE ws] [ht : RunG tg] [hb : RunE ta] [hk : RunE wa] [hv : RunE wb] : RunE (dcW vs ws tg ta wa wb) where
  x := fun ρ => (hi.x ρ).bind fun ds => ((dcX ht.x hb.x hk.x hv.x (wipeD ρ vs) ds [] []).calm).bind fun p => .ok (.dtt p.1 p.2)
  ok := fun ρ Q E h => by
    rw [post_bind] at h
    refine hi.ok _ _ _ (post_mono h (fun ds q => ?_) fun _ e => e)
    rw [post_bind] at q
    exact dcX_ok _ _ _ _ _ (post_calm q)

/-! ### statements -/
instance : RunE nextW := ⟨fun ρ => .ok (.next ρ), fun _ _ _ h => h⟩
instance : RunE brkW := ⟨fun ρ => .ok (.brk ρ), fun _ _ _ h => h⟩
instance : RunE contW := ⟨fun ρ => .ok (.cont ρ), fun _ _ _ h => h⟩
instance : RunE retNW := ⟨fun _ => .ok (.ret .non), fun _ _ _ h => h⟩
instance : RunE noneW := ⟨fun _ => .bad, fun _ _ _ h => h.elim⟩
def seqC (k : Env → Res Fl) : Fl → Res Fl | .next ρ => k ρ | f => .ok f
instance [hs : RunE s] [ht : RunE t] : RunE (seqW s t) where
  x := fun ρ => (hs.x ρ).bind (seqC ht.x)
  ok := fun ρ Q E h => by
    rw [post_bind] at h
    refine hs.ok _ _ _ (post_mono h (fun f q => ?_) fun _ e => e)
    cases f with
    | next ρ' => exact ht.ok _ _ _ q
    | _ => exact q
instance {i : Nat} [ha : RunE wa] : RunE (asgW i wa) where
  x := fun ρ => (ha.x ρ).bind fun d => .ok (.next (ρ.set i (some d)))
  ok := fun ρ Q E h => by rw [post_bind] at h; exact ha.ok _ _ _ h
instance [ha : RunE wa] : RunE (exprW wa) where
  x := fun ρ => (ha.x ρ).bind fun _ => .ok (.next ρ)
  ok := fun ρ Q E h => by rw [post_bind] at h; exact ha.ok _ _ _ h
instance [ha : RunE wa] : RunE (retW wa) where
  x := fun ρ => (ha.x ρ).bind fun d => .ok (.ret d)
  ok := fun ρ Q E h => by rw [post_bind] at h; exact ha.ok _ _ _ h
instance [hc : RunE ta] [hs : RunE s] [ht : RunE t] : RunE (iteW ta s t) where
  x := fun ρ => (hc.x ρ).bind fun b => match b with | true => hs.x ρ | false => ht.x ρ
  ok := fun ρ Q E h => by
    rw [post_bind] at h
    refine hc.ok _ _ _ (post_mono h (fun b q => ?_) fun _ e => e)
    cases b
    · exact ht.ok _ _ _ q
    · exact hs.ok _ _ _ q
def forC (k : Env → Res Fl) : Fl → Res Fl | .next ρ => k ρ | .cont ρ => k ρ | .brk ρ => .ok (.next ρ) | .ret d => .ok (.ret d)
def forX (tx : D → Env → Res Env) (bx : Env → Res Fl) : List D → Env → Res Fl
  | [], ρ => .ok (.next ρ)
  | d :: r, ρ => (tx d ρ).bind fun ρ1 => (bx ρ1).bind (forC (forX tx bx r))
theorem forX_ok [ht : RunG tg] [hs : RunE s] : ∀ (ds : List D) (ρ : Env) (Q : Fl → Prop) (E : Xn → Prop), (forX ht.x hs.x ds ρ).post Q E → forL tg s ds ρ Q E
  | [], ρ, Q, E, h => h
  | d :: r, ρ, Q, E, h => by
    unfold forX at h
    rw [post_bind] at h
    unfold forL
    refine ht.ok _ _ _ _ (post_mono h (fun ρ1 q => ?_) fun _ e => e)
    rw [post_bind] at q
    refine hs.ok _ _ _ (post_mono q (fun f q => ?_) fun _ e => e)
    cases f with
    | next ρ2 => exact forX_ok r ρ2 Q E q
    | cont ρ2 => exact forX_ok r ρ2 Q E q
    | brk ρ2 => exact q
    | ret d => exact q
instance [hi : RunE ws] [ht : RunG tg] [hs : RunE s] : RunE (forW ws tg s) where
  x := fun ρ => (hi.x ρ).bind fun ds => forX ht.x hs.x ds ρ
  ok := fun ρ Q E h => by
    rw [post_bind] at h
    exact hi.ok _ _ _ (post_mono h (fun ds q => forX_ok _ _ _ _ q) fun _ e => e)
def whileX (cx : Env → Res Bool) (bx : Env → Res Fl) : Nat → Env → Res Fl
  | 0, _ => .bad
  | n + 1, ρ => (cx ρ).bind fun b => match b with | true => (bx ρ).bind (forC (whileX cx bx n)) | false => .ok (.next ρ)
theorem whileX_ok [hc : RunE ta] [hs : RunE s] : ∀ (n : Nat) (ρ : Env) (Q : Fl → Prop) (E : Xn → Prop), (whileX hc.x hs.x n ρ).post Q E → whileN ta s n ρ Q E
  | 0, _, _, _, h => h.elim
  | n + 1, ρ, Q, E, h => by
    unfold whileX at h
    rw [post_bind] at h
    unfold whileN
    refine hc.ok _ _ _ (post_mono h (fun b q => ?_) fun _ e => e)
    cases b with
    | false => exact q
    | true =>
      rw [if_pos rfl]
      dsimp only at q
      rw [post_bind] at q
      refine hs.ok _ _ _ (post_mono q (fun f q => ?_) fun _ e => e)
      cases f with
      | next ρ2 => exact whileX_ok n ρ2 Q E q
      | cont ρ2 => exact whileX_ok n ρ2 Q E q
      | brk ρ2 => exact q
      | ret d => exact q
instance [hc : RunE ta] [hs : RunE s] : RunE (whileW ta s) where
  x := whileX hc.x hs.x 1000
  ok := fun ρ Q E h => ⟨1000, whileX_ok _ _ _ _ h⟩
instance [ha : RunE wa] [ht : RunG tg] : RunE (asgTW wa tg) where
  x := fun ρ => (ha.x ρ).bind fun d => (ht.x d ρ).bind fun ρ1 => .ok (.next ρ1)
  ok := fun ρ Q E h => by
    rw [post_bind] at h
    refine ha.ok _ _ _ (post_mono h (fun d q => ?_) fun _ e => e)
    rw [post_bind] at q
    exact ht.ok _ _ _ _ q
instance {i j : Nat} [ha : RunE wa] [hb : RunE wb] : RunE (parW i j wa wb) where
  x := fun ρ => (ha.x ρ).bind fun a => (hb.x ρ).bind fun b => .ok (.next ((ρ.set i (some a)).set j (some b)))
  ok := fun ρ Q E h => by
    rw [post_bind] at h
    refine ha.ok _ _ _ (post_mono h (fun a q => ?_) fun _ e => e)
    rw [post_bind] at q
    exact hb.ok _ _ _ q
def augX (i : Nat) (f : D → D → Res D) (wx : Env → Res D) (ρ : Env) : Res Fl := match ρ[i]? with | some (some x) => (wx ρ).bind fun y => (f x y).bind fun d => .ok (.next (ρ.set i (some d))) | _ => .bad
instance {i : Nat} [hf : Run2 g] [ha : RunE wa] : RunE (augW i g wa) where
  x := augX i hf.x ha.x
  ok := fun ρ Q E h => by
    unfold augX at h
    unfold augW
    split at h
    · rename_i x e
      try rw [e]
      rw [post_bind] at h
      refine ha.ok _ _ _ (post_mono h (fun a q => ?_) fun _ e => e)
      rw [post_bind] at q
      exact hf.ok _ _ _ _ q
    · exact h.elim
instance : Run2 (fun x y Q (_ : Xn → Prop) => match x, y with | .int a, .int b => Q (.int (a + b)) | _, _ => False) where
  x := fun x y => match x, y with | .int a, .int b => .ok (.int (a + b)) | _, _ => .bad
  ok := fun x y Q E h => by
    cases x <;> try exact h.elim
    cases y <;> try exact h.elim
    exact h
def lstX (ρ : Env) (i : Nat) (f : List D → Res Fl) : Res Fl := match ρ[i]? with | some (some (.lst xs)) => f xs | _ => .bad
theorem lstX_ok {ρ : Env} {i : Nat} {f : List D → Res Fl} {k : List D → Prop} {Q : Fl → Prop} {E : Xn → Prop} (h : (lstX ρ i f).post Q E) (hk : ∀ xs, (f xs).post Q E → k xs) : lstAt ρ i k := by
  unfold lstX at h
  unfold lstAt
  split at h
  · rename_i xs e
    try rw [e]
    exact hk xs h
  · exact h.elim
instance {i : Nat} [ha : RunE wa] : RunE (appendW i wa) where
  x := fun ρ => lstX ρ i fun xs => (ha.x ρ).bind fun d => Res.iff (decide (xs.length < 16777216)) (.ok (.next (ρ.set i (some (.lst (xs ++ [d]))))))
  ok := fun ρ Q E h => lstX_ok h fun xs q => by
    rw [post_bind] at q
    refine ha.ok _ _ _ (post_mono q (fun d q => ?_) fun _ e => e)
    obtain ⟨h1, h2⟩ := post_iff q
    exact ⟨of_decide_eq_true h1, h2⟩
def extX (i : Nat) (ρ : Env) (xs : List D) : D → Res Fl | .lst ys => Res.iff (decide (xs.length + ys.length ≤ 16777216)) (.ok (.next (ρ.set i (some (.lst (xs ++ ys)))))) | _ => .bad
instance {i : Nat} [ha : RunE wa] : RunE (extendW i wa) where
  x := fun ρ => lstX ρ i fun xs => (ha.x ρ).bind (extX i ρ xs)
  ok := fun ρ Q E h => lstX_ok h fun xs q => by
    rw [post_bind] at q
    refine ha.ok _ _ _ (post_mono q (fun d q => ?_) fun _ e => e)
    cases d <;> try exact q.elim
    obtain ⟨h1, h2⟩ := post_iff q
    exact ⟨of_decide_eq_true h1, h2⟩
def sixX (i : Nat) (ρ : Env) (xs : List D) (d : D) : D → Res Fl | .int k => (match ixN xs.length k with | some j => .ok (.next (ρ.set i (some (.lst (xs.set j d))))) | none => .bad) | _ => .bad
instance {i : Nat} [hk : RunE wb] [ha : RunE wa] : RunE (setIxW i wb wa) where
  x := fun ρ => lstX ρ i fun xs => (ha.x ρ).bind fun d => (hk.x ρ).bind (sixX i ρ xs d)
  ok := fun ρ Q E h => lstX_ok h fun xs q => by
    rw [post_bind] at q
    refine ha.ok _ _ _ (post_mono q (fun d q => ?_) fun _ e => e)
    rw [post_bind] at q
    refine hk.ok _ _ _ (post_mono q (fun k q => ?_) fun _ e => e)
    cases k <;> try exact q.elim
    rename_i k
    replace q : (match ixN xs.length k with | some j => .ok (.next (ρ.set i (some (.lst (xs.set j d))))) | none => .bad : Res Fl).post Q E := q
    show match ixN xs.length k with | some j => Q (.next (ρ.set i (some (.lst (xs.set j d))))) | none => False
    cases e : ixN xs.length k with
    | none => rw [e] at q; exact q.elim
    | some j => rw [e] at q; exact q
instance {i : Nat} [ht : RunG tg] : RunE (popW i tg) where
  x := fun ρ => lstX ρ i fun xs => match xs.getLast? with | some d => (ht.x d (ρ.set i (some (.lst xs.dropLast)))).bind fun ρ' => .ok (.next ρ') | none => .bad
  ok := fun ρ Q E h => lstX_ok h fun xs q => by
    cases e : xs.getLast? with
    | none => rw [e] at q; exact q.elim
    | some d =>
      rw [e] at q
      dsimp only at q ⊢
      rw [post_bind] at q
      exact ht.ok _ _ _ _ q
instance {c : Str} : RunE (raiseW c) := ⟨fun _ => .ex ⟨c, [], []⟩, fun _ _ _ h => h⟩
/-- the clauses of a try, run -/
class RunH (l : List Cl) where
  x : Xn → Env → Res Fl
  ok : ∀ y ρ Q E, (x y ρ).post Q E → handW l y ρ Q E
instance : RunH [] := ⟨fun y _ => .ex y, fun _ _ _ _ h => h⟩
instance {h : Str} {ms : List Str} {l : List Cl} [hs : RunE s] [hl : RunH l] : RunH (⟨h, ms, s⟩ :: l) where
  x := fun y ρ => match ms.contains y.c with | true => (hs.x ρ).calm | false => hl.x y ρ
  ok := fun y ρ Q E h => by
    unfold handW
    replace h : (match ms.contains y.c with | true => (hs.x ρ).calm | false => hl.x y ρ : Res Fl).post Q E := h
    cases e : ms.contains y.c with
    | true =>
      rw [if_pos rfl]
      rw [e] at h
      exact hs.ok _ _ _ (post_calm h)
    | false =>
      rw [if_neg Bool.false_ne_true]
      rw [e] at h
      exact hl.ok _ _ _ _ h
def tryX (xs : List Str) (hx : Xn → Env → Res Fl) (ρ : Env) : Res Fl → Res Fl
  | .ex y => Res.iff (xs.contains y.c) (hx y ρ)
  | r => r
instance {xs : List Str} {l : List Cl} [hs : RunE s] [hl : RunH l] : RunE (tryW xs s l) where
  x := fun ρ => tryX xs hl.x ρ (hs.x ρ)
  ok := fun ρ Q E h => by
    refine hs.ok _ _ _ ?_
    cases e : hs.x ρ with
    | ok f => rw [e] at h; exact h
    | bad => rw [e] at h; exact h.elim
    | ex y =>
      rw [e] at h
      obtain ⟨h1, h2⟩ := post_iff h
      exact ⟨h1, hl.ok _ _ _ _ h2⟩
def runC : Fl → Res D | .ret d => .ok d | .next _ => .ok .non | _ => .bad
instance {n : Nat} [hs : RunE s] : RunL (runW n s) where
  x := fun ds => (hs.x (ds.map some ++ List.replicate (n - ds.length) none)).bind runC
  ok := fun ds Q E h => by
    rw [post_bind] at h
    refine hs.ok _ _ _ (post_mono h (fun f q => ?_) fun _ e => e)
    cases f <;> first | exact q | exact q.elim
end

/-! ### operators -/
def vB : Kd → Bool | .v => true | _ => false
theorem vB_ok {k : Kd} {b : Bool} (h : (vB k || b) = true) : k = .v ∨ b = true := by
  cases k <;> first | exact .inl rfl | exact .inr h
def cmpX (p : Int → Int → Bool) : D → D → Res D | .int i, .int j => .ok (.bl (p i j)) | _, _ => .bad
instance {p : Int → Int → Bool} : Run2 (cmpW p) where
  x := cmpX p
  ok := fun x y Q E h => by
    cases x <;> try exact h.elim
    cases y <;> try exact h.elim
    exact h
instance : Run2 ltW := inferInstanceAs (Run2 (cmpW _))
instance : Run2 leW := inferInstanceAs (Run2 (cmpW _))
instance : Run2 gtW := inferInstanceAs (Run2 (cmpW _))
instance : Run2 geW := inferInstanceAs (Run2 (cmpW _))
instance : Run2 eqW := ⟨fun x y => Res.iff (plain 50 x && plain 50 y) (.ok (.bl (eqD x y))), fun x y Q E h => by
  obtain ⟨h1, h2⟩ := post_iff h
  rw [Bool.and_eq_true] at h1
  exact ⟨h1.1, h1.2, h2⟩⟩
instance : Run2 neW := ⟨fun x y => Res.iff (plain 50 x && plain 50 y) (.ok (.bl (!eqD x y))), fun x y Q E h => by
  obtain ⟨h1, h2⟩ := post_iff h
  rw [Bool.and_eq_true] at h1
  exact ⟨h1.1, h1.2, h2⟩⟩
def isNX : D → Res D | .non => .ok (.bl true) | _ => .ok (.bl false)
def nonX : D → Bool | .non => true | _ => false
instance : Run2 isW := ⟨fun x y => Res.iff (nonX y) (isNX x), fun x y Q E h => by
  obtain ⟨h1, h2⟩ := post_iff h
  cases y <;> first | cases h1; done | skip
  refine ⟨rfl, ?_⟩
  cases x <;> exact h2⟩
def isnNX : D → Res D | .non => .ok (.bl false) | _ => .ok (.bl true)
instance : Run2 isnW := ⟨fun x y => Res.iff (nonX y) (isnNX x), fun x y Q E h => by
  obtain ⟨h1, h2⟩ := post_iff h
  cases y <;> first | cases h1; done | skip
  refine ⟨rfl, ?_⟩
  cases x <;> exact h2⟩
def addX : D → D → Res D
  | .int i, .int j => .ok (.int (i + j))
  | .tup a, .tup b => Res.iff (decide (a.length + b.length ≤ 16777216)) (.ok (.tup (a ++ b)))
  | .lst a, .lst b => Res.iff (decide (a.length + b.length ≤ 16777216)) (.ok (.lst (a ++ b)))
  | .str a, .str b => Res.iff (decide (a.length + b.length ≤ 16777216)) (.ok (.str (a ++ b)))
  | _, _ => .bad
instance : Run2 addW := ⟨addX, fun x y Q E h => by
  have hs : sizeLine = 16777216 := sizeLine_eq
  cases x <;> try exact h.elim
  all_goals cases y <;> try exact h.elim
  · exact h
  all_goals (obtain ⟨h1, h2⟩ := post_iff h; exact ⟨by rw [hs]; exact of_decide_eq_true h1, h2⟩)⟩
/-- of two whole numbers, with a condition -/
def ii (c : Int → Int → Bool) (f : Int → Int → Int) : D → D → Res D | .int i, .int j => Res.iff (c i j) (.ok (.int (f i j))) | _, _ => .bad
theorem ii_ok {c : Int → Int → Bool} {f : Int → Int → Int} {x y : D} {Q : D → Prop} {E : Xn → Prop} (h : (ii c f x y).post Q E) : ∃ i j, x = .int i ∧ y = .int j ∧ c i j = true ∧ Q (.int (f i j)) := by
  cases x <;> try exact h.elim
  cases y <;> try exact h.elim
  obtain ⟨h1, h2⟩ := post_iff h
  exact ⟨_, _, rfl, rfl, h1, h2⟩
def yes2 (_ _ : Int) : Bool := true
def cpowB (i j : Int) : Bool := decide (0 ≤ j) && decide (j ≤ 1000000) && decide (i.natAbs < 2 ^ 64)
theorem cpowB_ok {i j : Int} (h : cpowB i j = true) : CPow i j := by
  unfold cpowB at h
  simp only [Bool.and_eq_true, decide_eq_true_eq] at h
  exact ⟨h.1.1, h.1.2, h.2⟩
def cmulB (i j : Int) : Bool := (decide (-(2 ^ 64) < i) && decide (i < 2 ^ 64)) || (decide (-(2 ^ 64) < j) && decide (j < 2 ^ 64))
theorem cmulB_ok {i j : Int} (h : cmulB i j = true) : CMul i j := by
  unfold cmulB at h
  simp only [Bool.and_eq_true, Bool.or_eq_true, decide_eq_true_eq] at h
  exact h
def cdivB (i j : Int) : Bool := decide (0 < j) && decide (j < 1073741824)
theorem cdivB_ok {i j : Int} (h : cdivB i j = true) : CDiv i j := by
  unfold cdivB at h
  simp only [Bool.and_eq_true, decide_eq_true_eq] at h
  exact h
instance : Run2 subW := ⟨ii yes2 fun i j => i - j, fun x y Q E h => by obtain ⟨i, j, rfl, rfl, h1, h2⟩ := ii_ok h; exact h2⟩
instance : Run2 mulW := ⟨ii cmulB fun i j => i * j, fun x y Q E h => by obtain ⟨i, j, rfl, rfl, h1, h2⟩ := ii_ok h; exact ⟨cmulB_ok h1, h2⟩⟩
instance : Run2 divW := ⟨ii cdivB fun i j => i / j, fun x y Q E h => by obtain ⟨i, j, rfl, rfl, h1, h2⟩ := ii_ok h; exact ⟨cdivB_ok h1, h2⟩⟩
instance : Run2 modW := ⟨ii (fun _ j => decide (0 < j)) fun i j => i % j, fun x y Q E h => by obtain ⟨i, j, rfl, rfl, h1, h2⟩ := ii_ok h; exact ⟨of_decide_eq_true h1, h2⟩⟩
instance : Run2 powW := ⟨ii cpowB fun i j => i ^ j.toNat, fun x y Q E h => by obtain ⟨i, j, rfl, rfl, h1, h2⟩ := ii_ok h; exact ⟨cpowB_ok h1, h2⟩⟩
instance : Run2 shlW := ⟨ii cpowB fun i j => i * 2 ^ j.toNat, fun x y Q E h => by obtain ⟨i, j, rfl, rfl, h1, h2⟩ := ii_ok h; exact ⟨cpowB_ok h1, h2⟩⟩
instance : Run2 shrW := ⟨ii (fun _ j => decide (0 ≤ j)) fun i j => i / 2 ^ j.toNat, fun x y Q E h => by obtain ⟨i, j, rfl, rfl, h1, h2⟩ := ii_ok h; exact ⟨of_decide_eq_true h1, h2⟩⟩
instance : Run2 bandW := ⟨ii yes2 Builtin.bitAnd, fun x y Q E h => by obtain ⟨i, j, rfl, rfl, h1, h2⟩ := ii_ok h; exact h2⟩
instance : Run2 borW := ⟨ii yes2 Builtin.bitOr, fun x y Q E h => by obtain ⟨i, j, rfl, rfl, h1, h2⟩ := ii_ok h; exact h2⟩
instance : Run2 max2W := ⟨ii yes2 fun i j => if j > i then j else i, fun x y Q E h => by obtain ⟨i, j, rfl, rfl, h1, h2⟩ := ii_ok h; exact h2⟩
instance : Run2 min2W := ⟨ii yes2 fun i j => if j < i then j else i, fun x y Q E h => by obtain ⟨i, j, rfl, rfl, h1, h2⟩ := ii_ok h; exact h2⟩
instance : Run2 inW := ⟨fun x y => (Res.opt (inB x y)).bind fun b => .ok (.bl b), fun x y Q E h => by
  rw [post_bind] at h
  obtain ⟨b, e, h⟩ := post_opt h
  unfold inW
  rw [e]
  exact h⟩
instance : Run2 ninW := ⟨fun x y => (Res.opt (inB x y)).bind fun b => .ok (.bl (!b)), fun x y Q E h => by
  rw [post_bind] at h
  obtain ⟨b, e, h⟩ := post_opt h
  unfold ninW
  rw [e]
  exact h⟩
instance : Run2 ixW := ⟨fun x y => Res.opt (ixB x y), fun x y Q E h => by
  obtain ⟨b, e, h⟩ := post_opt h
  unfold ixW
  rw [e]
  exact h⟩
instance : Run2 ixrW := ⟨fun x y => (Res.opt (ixB x y)).bind fun d => Res.iff (im d) (.ok d), fun x y Q E h => by
  rw [post_bind] at h
  obtain ⟨b, e, h⟩ := post_opt h
  unfold ixrW
  rw [e]
  exact post_iff h⟩
def repAX : D → D → Res D | .tup xs, .int k => Res.iff (decide (-1000 ≤ k) && decide (k ≤ 1000) && decide (xs.length ≤ 1000)) (.ok (.tup (List.replicate k.toNat xs).flatten)) | _, _ => .bad
instance : Run2 repAW := ⟨repAX, fun x y Q E h => by
  cases x <;> try exact h.elim
  cases y <;> try exact h.elim
  obtain ⟨h1, h2⟩ := post_iff h
  simp only [Bool.and_eq_true, decide_eq_true_eq] at h1
  exact ⟨⟨h1.1.1, h1.1.2, h1.2⟩, h2⟩⟩
def repLX : D → D → Res D | .lst xs, .int k => Res.iff (decide (-(2 ^ 63) ≤ k) && decide (k < 2 ^ 63) && decide (xs.length * k.toNat ≤ 16777216)) (.ok (.lst (List.replicate k.toNat xs).flatten)) | _, _ => .bad
instance : Run2 repLW := ⟨repLX, fun x y Q E h => by
  cases x <;> try exact h.elim
  cases y <;> try exact h.elim
  obtain ⟨h1, h2⟩ := post_iff h
  simp only [Bool.and_eq_true, decide_eq_true_eq] at h1
  exact ⟨⟨h1.1.1, h1.1.2, h1.2⟩, h2⟩⟩
def repSX : D → D → Res D | .str s, .int k => Res.iff (decide (-1000 ≤ k) && decide (k ≤ 1000) && decide (s.length ≤ 1000) && decide ((repStr s k).length ≤ 1000000)) (.ok (.str (repStr s k))) | _, _ => .bad
instance : Run2 repSW := ⟨repSX, fun x y Q E h => by
  cases x <;> try exact h.elim
  cases y <;> try exact h.elim
  obtain ⟨h1, h2⟩ := post_iff h
  simp only [Bool.and_eq_true, decide_eq_true_eq] at h1
  exact ⟨⟨h1.1.1.1, h1.1.1.2, h1.1.2, h1.2⟩, h2⟩⟩
def rngV2X : D → D → Res D | .int i, .int j => .ok (.rng i j) | _, _ => .bad
instance : Run2 rngV2W := ⟨rngV2X, fun x y Q E h => by
  cases x <;> try exact h.elim
  cases y <;> try exact h.elim
  exact h⟩
def rngV1X : D → Res D | .int j => .ok (.rng 0 j) | _ => .bad
instance : Run1 rngV1W := ⟨rngV1X, fun x Q E h => by cases x <;> first | exact h | exact h.elim⟩
/-- of one whole number -/
def i1 (f : Int → Int) : D → Res D | .int i => .ok (.int (f i)) | _ => .bad
instance : Run1 invW := ⟨i1 Builtin.bitNot, fun x Q E h => by cases x <;> first | exact h | exact h.elim⟩
instance : Run1 negW := ⟨i1 fun i => -i, fun x Q E h => by cases x <;> first | exact h | exact h.elim⟩
instance : Run1 absW := ⟨i1 fun i => if i < 0 then -i else i, fun x Q E h => by cases x <;> first | exact h | exact h.elim⟩
def intX : D → Res D | .int i => .ok (.int i) | .bl b => .ok (.int (if b then 1 else 0)) | _ => .bad
instance : Run1 intW := ⟨intX, fun x Q E h => by cases x <;> first | exact h | exact h.elim⟩
instance : Run1 lenW := ⟨fun x => (Res.opt (lenB x)).bind fun i => .ok (.int i), fun x Q E h => by
  rw [post_bind] at h
  obtain ⟨b, e, h⟩ := post_opt h
  unfold lenW
  rw [e]
  exact h⟩
def sumX : D → Res D | .lst xs => (match intsOf xs with | some ns => .ok (.int ns.sum) | none => .bad) | _ => .bad
instance : Run1 sumW := ⟨sumX, fun x Q E h => by
  cases x <;> try exact h.elim
  rename_i xs
  unfold sumX at h
  unfold sumW
  dsimp only at h ⊢
  cases e : intsOf xs <;> rw [e] at h <;> exact h⟩
def allX : D → Res D | .lst xs => (match blsOf xs with | some ns => .ok (.bl (ns.all id)) | none => .bad) | _ => .bad
instance : Run1 allW := ⟨allX, fun x Q E h => by
  cases x <;> try exact h.elim
  rename_i xs
  unfold allX at h
  unfold allW
  dsimp only at h ⊢
  cases e : blsOf xs <;> rw [e] at h <;> exact h⟩
def anyX : D → Res D | .lst xs => (match blsOf xs with | some ns => .ok (.bl (ns.any id)) | none => .bad) | _ => .bad
instance : Run1 anyW := ⟨anyX, fun x Q E h => by
  cases x <;> try exact h.elim
  rename_i xs
  unfold anyX at h
  unfold anyW
  dsimp only at h ⊢
  cases e : blsOf xs <;> rw [e] at h <;> exact h⟩
instance {T : String} : Run1 (isiW T) := ⟨fun x => (Res.opt (tyN x)).bind fun a => .ok (.bl (subT a T)), fun x Q E h => by
  rw [post_bind] at h
  obtain ⟨b, e, h⟩ := post_opt h
  unfold isiW
  rw [e]
  exact h⟩
instance {S T : String} : Run1 (isi2W S T) := ⟨fun x => (Res.opt (tyN x)).bind fun a => .ok (.bl (subT a S || subT a T)), fun x Q E h => by
  rw [post_bind] at h
  obtain ⟨b, e, h⟩ := post_opt h
  unfold isi2W
  rw [e]
  exact h⟩
def tupX (k : Kd) : D → Res D | .lst xs => Res.iff (vB k || imL xs) (.ok (.tup xs)) | .tup xs => Res.iff (vB k || im (.tup xs)) (.ok (.tup xs)) | _ => .bad
instance {k : Kd} : Run1 (tupOfW k) := ⟨tupX k, fun x Q E h => by
  cases x <;> try exact h.elim
  all_goals (obtain ⟨h1, h2⟩ := post_iff h; exact ⟨vB_ok h1, h2⟩)⟩
def lstOX (k : Kd) : D → Res D | .lst xs => Res.iff (vB k || imL xs) (.ok (.lst xs)) | .tup xs => Res.iff (vB k || im (.tup xs)) (.ok (.lst xs)) | .dct ks _ => .ok (.lst (ks.map kD)) | _ => .bad
instance {k : Kd} : Run1 (lstOfW k) := ⟨lstOX k, fun x Q E h => by
  cases x <;> try exact h.elim
  · obtain ⟨h1, h2⟩ := post_iff h; exact ⟨vB_ok h1, h2⟩
  · obtain ⟨h1, h2⟩ := post_iff h; exact ⟨vB_ok h1, h2⟩
  · exact h⟩

/-! ### sorting, run -/
def insD (x : D) : List D → List D
  | [] => [x]
  | y :: ys => if leD x y = true then x :: y :: ys else y :: insD x ys
def isortD : List D → List D
  | [] => []
  | x :: xs => insD x (isortD xs)
theorem leD_trans (a b c : D) (h1 : leD a b = true) (h2 : leD b c = true) : leD a c = true := by
  unfold leD PySem.W.dataLt at *
  simp only [Bool.not_eq_true'] at *
  cases h : PyProof.Rows.lexLt itemOrd (PySem.W.keyToks (py c)) (PySem.W.keyToks (py a)) with
  | false => rfl
  | true =>
    exfalso
    cases h3 : PyProof.Rows.lexLt itemOrd (PySem.W.keyToks (py a)) (PySem.W.keyToks (py b)) with
    | true =>
      have := lex_trans _ _ _ h h3
      rw [this] at h2
      cases h2
    | false =>
      have := lex_total _ _ h3 h1
      rw [this] at h
      rw [h] at h2
      cases h2
theorem leD_total (a b : D) : (leD a b || leD b a) = true := by
  unfold leD PySem.W.dataLt
  cases h : PyProof.Rows.lexLt itemOrd (PySem.W.keyToks (py b)) (PySem.W.keyToks (py a)) with
  | false => rfl
  | true =>
    cases h2 : PyProof.Rows.lexLt itemOrd (PySem.W.keyToks (py a)) (PySem.W.keyToks (py b)) with
    | false => rfl
    | true =>
      have := lex_trans _ _ _ h h2
      rw [lex_irrefl] at this
      cases this
theorem insD_at {x : D} {l2 : List D} (h2 : ∀ b ∈ l2, leD x b = true) : ∀ l1 : List D, (∀ b ∈ l1, (!leD x b) = true) → insD x (l1 ++ l2) = l1 ++ x :: l2
  | [], _ => by
    cases l2 with
    | nil => rfl
    | cons y ys => show insD x (y :: ys) = _; unfold insD; rw [if_pos (h2 y (by simp))]; rfl
  | b :: l1, h => by
    have hb := h b (by simp)
    show insD x (b :: (l1 ++ l2)) = _
    unfold insD
    rw [if_neg (by simpa using hb), insD_at h2 l1 fun c hc => h c (by simp [hc])]
    rfl
theorem sortD_run : ∀ xs : List D, sortD xs = isortD xs
  | [] => by unfold sortD isortD; exact List.mergeSort_nil
  | x :: xs => by
    unfold isortD
    rw [← sortD_run xs]
    obtain ⟨l1, l2, e1, e2, h1⟩ := List.mergeSort_cons (le := leD) leD_trans leD_total x xs
    have hs := List.pairwise_mergeSort (le := leD) leD_trans leD_total (x :: xs)
    unfold sortD
    rw [e1, e2, insD_at ?_ l1 h1]
    intro b hb
    rw [e1] at hs
    have := (List.pairwise_append.mp hs).2.1
    exact (List.pairwise_cons.mp this).1 b hb
def sortX (k : Kd) : D → Res D
  | .lst xs => Res.iff ((vB k || imL xs) && sortOk xs) (.ok (.lst (isortD xs)))
  | .tup xs => Res.iff ((vB k || im (.tup xs)) && sortOk xs) (.ok (.lst (isortD xs)))
  | .dct ks _ => Res.iff (sortOk (ks.map kD)) (.ok (.lst (isortD (ks.map kD))))
  | _ => .bad
instance {k : Kd} : Run1 (sortW k) := ⟨sortX k, fun x Q E h => by
  cases x <;> try exact h.elim
  · obtain ⟨h1, h2⟩ := post_iff h
    rw [Bool.and_eq_true] at h1
    refine ⟨vB_ok h1.1, h1.2, ?_⟩
    rw [sortD_run]
    exact h2
  · obtain ⟨h1, h2⟩ := post_iff h
    rw [Bool.and_eq_true] at h1
    refine ⟨vB_ok h1.1, h1.2, ?_⟩
    rw [sortD_run]
    exact h2
  · obtain ⟨h1, h2⟩ := post_iff h
    refine ⟨h1, ?_⟩
    rw [sortD_run]
    exact h2⟩
def sortKTX : D → Res D | .dtt ks _ => Res.iff (sortOk (ks.map kT)) (.ok (.lst (isortD (ks.map kT)))) | _ => .bad
instance : Run1 sortKTW := ⟨sortKTX, fun x Q E h => by
  cases x <;> try exact h.elim
  obtain ⟨h1, h2⟩ := post_iff h
  refine ⟨h1, ?_⟩
  rw [sortD_run]
  exact h2⟩
def minX (k : Kd) : D → Res D | .lst (x :: xs) => Res.iff ((vB k || imL (x :: xs)) && sortOk (x :: xs)) (.ok (minDD x xs)) | _ => .bad
instance {k : Kd} : Run1 (minLW k) := ⟨minX k, fun x Q E h => by
  cases x <;> try exact h.elim
  rename_i xs
  cases xs with
  | nil => exact h.elim
  | cons x xs =>
    obtain ⟨h1, h2⟩ := post_iff h
    rw [Bool.and_eq_true] at h1
    exact ⟨vB_ok h1.1, h1.2, h2⟩⟩
def maxX (k : Kd) : D → Res D | .lst (x :: xs) => Res.iff ((vB k || imL (x :: xs)) && sortOk (x :: xs)) (.ok (maxDD x xs)) | _ => .bad
instance {k : Kd} : Run1 (maxLW k) := ⟨maxX k, fun x Q E h => by
  cases x <;> try exact h.elim
  rename_i xs
  cases xs with
  | nil => exact h.elim
  | cons x xs =>
    obtain ⟨h1, h2⟩ := post_iff h
    rw [Bool.and_eq_true] at h1
    exact ⟨vB_ok h1.1, h1.2, h2⟩⟩
/-- what is run is so -/
theorem run_ok {m : List D → W D} [h : RunL m] {ds : List D} {d : D} (e : h.x ds = .ok d) : Pure (m ds) d := fun Q E q => h.ok _ _ _ (by rw [e]; exact q)
theorem run_ex {m : List D → W D} [h : RunL m] {ds : List D} {y : Xn} (e : h.x ds = .ex y) (Q : D → Prop) (E : Xn → Prop) (q : E y) : m ds Q E := h.ok _ _ _ (by rw [e]; exact q)
end DL

namespace DL
open PySem PySem.Spec PyProof.Rows L2

/-! ### objects, dicts, run -/
section
variable {wa wb wc wk wx : Env → W D} {ws : Env → W (List D)} {m : List D → W D} {s : Env → W Fl} {f : D → D → Bool}
instance {cs : List Str} {fl : Str} : Run1 (fldW cs fl) := ⟨fun x => Res.opt (fldB cs fl x), fun x Q E h => by
  obtain ⟨d, e, h⟩ := post_opt h
  unfold fldW
  rw [e]
  exact h⟩
instance {c : Str} [hf : RunL m] [ha : RunE ws] : RunE (makeW c m ws) where
  x := fun ρ => (ha.x ρ).bind fun ds => hf.x (.obj c [] [] :: ds)
  ok := fun ρ Q E h => by
    rw [post_bind] at h
    exact ha.ok _ _ _ (post_mono h (fun a q => hf.ok _ _ _ q) fun _ e => e)
def runMC : Fl → Res D | .next ρ => (match ρ[0]? with | some (some d) => .ok d | _ => .bad) | _ => .bad
instance {n : Nat} [hs : RunE s] : RunL (runM n s) where
  x := fun ds => (hs.x (ds.map some ++ List.replicate (n - ds.length) none)).bind runMC
  ok := fun ds Q E h => by
    rw [post_bind] at h
    refine hs.ok _ _ _ (post_mono h (fun f q => ?_) fun _ e => e)
    cases f <;> try exact q.elim
    rename_i ρ
    unfold runMC at q
    dsimp only at q ⊢
    split at q
    · rename_i d e
      try rw [e]
      exact q
    · exact q.elim
def objX (ρ : Env) (i : Nat) (cs : List Str) (f : Str → List Str → List D → Res Fl) : Res Fl := match ρ[i]? with | some (some (.obj c ns ds)) => Res.iff (cs.contains c) (f c ns ds) | _ => .bad
theorem objX_ok {ρ : Env} {i : Nat} {cs : List Str} {f : Str → List Str → List D → Res Fl} {k : Str → List Str → List D → Prop} {Q : Fl → Prop} {E : Xn → Prop} (h : (objX ρ i cs f).post Q E) (hk : ∀ c ns ds, (f c ns ds).post Q E → k c ns ds) : objAt ρ i cs k := by
  unfold objX at h
  unfold objAt
  split at h
  · rename_i c ns ds e
    try rw [e]
    obtain ⟨h1, h2⟩ := post_iff h
    exact ⟨by simpa using h1, hk _ _ _ h2⟩
  · exact h.elim
def lvlB (n : Nat) (k : Kd) (d : D) : Bool := decide (k.lvl = n) || !canOwn d
theorem lvlB_ok {n : Nat} {k : Kd} {d : D} (h : lvlB n k d = true) : lvlOk n k d := by
  unfold lvlB at h
  simp only [Bool.or_eq_true, decide_eq_true_eq, Bool.not_eq_true'] at h
  exact h
instance {i n : Nat} {cs : List Str} {fl : Str} {ke : Kd} [ha : RunE wa] : RunE (setFldW i cs fl n ke wa) where
  x := fun ρ => objX ρ i cs fun c ns ds => (ha.x ρ).bind fun d => Res.iff (lvlB n ke d && decide (ns.length < 900)) (.ok (.next (ρ.set i (some (.obj c (putF' fl d ns ds).1 (putF' fl d ns ds).2)))))
  ok := fun ρ Q E h => objX_ok h fun c ns ds q => by
    rw [post_bind] at q
    refine ha.ok _ _ _ (post_mono q (fun d q => ?_) fun _ e => e)
    obtain ⟨h1, h2⟩ := post_iff q
    rw [Bool.and_eq_true, decide_eq_true_eq] at h1
    exact ⟨lvlB_ok h1.1, h1.2, h2⟩
def lstOpt : Option D → Res (List D) | some (.lst xs) => .ok xs | _ => .bad
theorem post_lstOpt {o : Option D} {Q : List D → Prop} {E : Xn → Prop} (h : (lstOpt o).post Q E) : ∃ xs, o = some (.lst xs) ∧ Q xs := by
  unfold lstOpt at h
  split at h
  · exact ⟨_, rfl, h⟩
  · exact h.elim
instance {i n : Nat} {cs : List Str} {fl : Str} {ke : Kd} [ha : RunE wa] : RunE (fldAppendW i cs fl n ke wa) where
  x := fun ρ => objX ρ i cs fun c ns ds => (Res.opt (idxS fl ns)).bind fun j => (lstOpt ds[j]?).bind fun xs => (ha.x ρ).bind fun d => Res.iff (lvlB n ke d && decide (xs.length < 16777216)) (.ok (.next (ρ.set i (some (.obj c ns (ds.set j (.lst (xs ++ [d]))))))))
  ok := fun ρ Q E h => objX_ok h fun c ns ds q => by
    rw [post_bind] at q
    obtain ⟨j, ej, q⟩ := post_opt q
    rw [post_bind] at q
    obtain ⟨xs, ex, q⟩ := post_lstOpt q
    rw [post_bind] at q
    rw [ej]
    try dsimp only
    rw [ex]
    try dsimp only
    refine ha.ok _ _ _ (post_mono q (fun d q => ?_) fun _ e => e)
    obtain ⟨h1, h2⟩ := post_iff q
    rw [Bool.and_eq_true, decide_eq_true_eq] at h1
    exact ⟨lvlB_ok h1.1, h1.2, h2⟩
instance {i : Nat} {cs : List Str} {mn : Str} [hf : RunL m] [ha : RunE ws] : RunE (methW i cs mn m ws) where
  x := fun ρ => objX ρ i cs fun c ns ds0 => Res.iff (idxS mn ns).isNone ((ha.x ρ).bind fun ds => (hf.x (.obj c ns ds0 :: ds)).bind fun self => .ok (.next (ρ.set i (some self))))
  ok := fun ρ Q E h => objX_ok h fun c ns ds0 q => by
    obtain ⟨h1, h2⟩ := post_iff q
    refine ⟨by simpa using h1, ?_⟩
    rw [post_bind] at h2
    refine ha.ok _ _ _ (post_mono h2 (fun ds q => ?_) fun _ e => e)
    rw [post_bind] at q
    exact hf.ok _ _ _ q
def dctX (ρ : Env) (i : Nat) (f : List Key → List D → Res Fl) : Res Fl := match ρ[i]? with | some (some (.dct ks ds)) => f ks ds | _ => .bad
theorem dctX_ok {ρ : Env} {i : Nat} {f : List Key → List D → Res Fl} {k : List Key → List D → Prop} {Q : Fl → Prop} {E : Xn → Prop} (h : (dctX ρ i f).post Q E) (hk : ∀ ks ds, (f ks ds).post Q E → k ks ds) : dctAt ρ i k := by
  unfold dctX at h
  unfold dctAt
  split at h
  · rename_i ks ds e
    try rw [e]
    exact hk _ _ h
  · exact h.elim
instance {i : Nat} [hk : RunE wk] [ha : RunE wa] : RunE (putW i wk wa) where
  x := fun ρ => dctX ρ i fun ks ds => (ha.x ρ).bind fun d => (hk.x ρ).bind fun y => (Res.opt (keyOf y)).bind fun k => Res.iff (decide (ks.length < 16777216)) (.ok (.next (ρ.set i (some (.dct (putD ks ds k d).1 (putD ks ds k d).2)))))
  ok := fun ρ Q E h => dctX_ok h fun ks ds q => by
    rw [post_bind] at q
    refine ha.ok _ _ _ (post_mono q (fun d q => ?_) fun _ e => e)
    rw [post_bind] at q
    refine hk.ok _ _ _ (post_mono q (fun y q => ?_) fun _ e => e)
    rw [post_bind] at q
    obtain ⟨k, ek, q⟩ := post_opt q
    rw [ek]
    obtain ⟨h1, h2⟩ := post_iff q
    exact ⟨of_decide_eq_true h1, h2⟩
def getX (k1 : Kd) (kx xx : Res D) : D → Res D
  | .dct ks ds => kx.bind fun y => xx.bind fun z => (Res.opt (keyOf y)).bind fun k => Res.iff (vB k1 || im ((dget ks ds k).getD .non)) (.ok ((dget ks ds k).getD z))
  | _ => .bad
instance {k1 : Kd} [ha : RunE wa] [hk : RunE wk] [hx : RunE wx] : RunE (getCW k1 wa wk wx) where
  x := fun ρ => (ha.x ρ).bind (getX k1 (hk.x ρ) (hx.x ρ))
  ok := fun ρ Q E h => by
    rw [post_bind] at h
    refine ha.ok _ _ _ (post_mono h (fun d q => ?_) fun _ e => e)
    cases d <;> try exact q.elim
    rename_i ks ds
    unfold getX at q
    dsimp only at q ⊢
    rw [post_bind] at q
    refine hk.ok _ _ _ (post_mono q (fun y q => ?_) fun _ e => e)
    rw [post_bind] at q
    refine hx.ok _ _ _ (post_mono q (fun z q => ?_) fun _ e => e)
    rw [post_bind] at q
    obtain ⟨k, ek, q⟩ := post_opt q
    rw [ek]
    obtain ⟨h1, h2⟩ := post_iff q
    exact ⟨vB_ok h1, h2⟩
def augIX (i : Nat) (ρ : Env) (xs : List D) (wx : Res D) : D → Res Fl
  | .int k => Res.iff (decide (0 ≤ k)) (match xs[k.toNat]? with | some (.int a) => wx.bind fun d => (match d with | .int b => .ok (.next (ρ.set i (some (.lst (xs.set k.toNat (.int (a + b))))))) | _ => .bad) | _ => .bad)
  | _ => .bad
instance {i : Nat} [hk : RunE wk] [ha : RunE wa] : RunE (augIxW i wk wa) where
  x := fun ρ => lstX ρ i fun xs => (hk.x ρ).bind (augIX i ρ xs (ha.x ρ))
  ok := fun ρ Q E h => lstX_ok h fun xs q => by
    rw [post_bind] at q
    refine hk.ok _ _ _ (post_mono q (fun k q => ?_) fun _ e => e)
    cases k <;> try exact q.elim
    obtain ⟨h1, h2⟩ := post_iff q
    refine ⟨of_decide_eq_true h1, ?_⟩
    split at h2
    · rename_i a e
      try rw [e]
      try dsimp only
      rw [post_bind] at h2
      refine ha.ok _ _ _ (post_mono h2 (fun d q => ?_) fun _ e => e)
      cases d <;> first | exact q | exact q.elim
    · exact h2.elim
instance : Run2 (ordW f) := ⟨fun x y => Res.iff (plain 50 x && plain 50 y && alikeD x y && !nonX x) (.ok (.bl (f x y))), fun x y Q E h => by
  obtain ⟨h1, h2⟩ := post_iff h
  simp only [Bool.and_eq_true, Bool.not_eq_true'] at h1
  refine ⟨⟨h1.1.1.1, h1.1.1.2, h1.1.2, fun e => ?_⟩, h2⟩
  cases x <;> first | (simp [nonX] at h1; done) | (simp [py] at e; done) | (simp [plain, flat] at h1; done)⟩
def sortItX (k : Kd) : D → Res D | .dct ks ds => Res.iff ((vB k || imL ds) && sortOk (itemsD ks ds)) (.ok (.lst (isortD (itemsD ks ds)))) | _ => .bad
instance {k : Kd} : Run1 (sortItW k) := ⟨sortItX k, fun x Q E h => by
  cases x <;> try exact h.elim
  obtain ⟨h1, h2⟩ := post_iff h
  rw [Bool.and_eq_true] at h1
  refine ⟨vB_ok h1.1, h1.2, ?_⟩
  rw [sortD_run]
  exact h2⟩
/-- a table of defs, run -/
class RunT (tab : List (Str × (List D → W D))) where
  x : Str → Option (List D → Res D)
  ok : ∀ n f, x n = some f → ∃ m, tab.lookup n = some m ∧ ∀ ds Q E, (f ds).post Q E → m ds Q E
instance : RunT [] := ⟨fun _ => none, fun _ _ h => by cases h⟩
instance {n0 : Str} {tab : List (Str × (List D → W D))} [hm : RunL m] [ht : RunT tab] : RunT ((n0, m) :: tab) where
  x := fun n => match n == n0 with | true => some hm.x | false => ht.x n
  ok := fun n f h => by
    replace h : (match n == n0 with | true => some hm.x | false => ht.x n) = some f := h
    cases e : (n == n0) with
    | true =>
      rw [e] at h
      cases h
      exact ⟨m, by rw [List.lookup_cons, e], fun ds Q E h => hm.ok _ _ _ h⟩
    | false =>
      rw [e] at h
      obtain ⟨m', e', q⟩ := ht.ok _ _ h
      exact ⟨m', by rw [List.lookup_cons, e]; exact e', q⟩
def gloX : D → Option Str | .glo x => some x | _ => none
instance {tab : List (Str × (List D → W D))} [ht : RunT tab] [hf : RunE wa] [ha : RunE ws] : RunE (callVW tab wa ws) where
  x := fun ρ => (hf.x ρ).bind fun d => (Res.opt (gloX d)).bind fun n => (Res.opt (ht.x n)).bind fun f => (ha.x ρ).bind f
  ok := fun ρ Q E h => by
    rw [post_bind] at h
    refine hf.ok _ _ _ (post_mono h (fun d q0 => ?_) fun _ e => e)
    rw [post_bind] at q0
    obtain ⟨n, en, q1⟩ := post_opt q0
    rw [post_bind] at q1
    obtain ⟨f, ef, q2⟩ := post_opt q1
    rw [post_bind] at q2
    obtain ⟨m', em, hm⟩ := ht.ok _ _ ef
    clear q1 q0
    cases d <;> try (cases en; done)
    cases en
    show kCV1 ws ρ Q E (tab.lookup _)
    rw [em]
    exact ha.ok _ _ _ (post_mono q2 (fun ds q => hm _ _ _ q) fun _ e => e)
end
end DL

namespace DL
open PySem PySem.Spec PyProof.Rows L2

/-! ### d.copy(), the keys tuples of whole numbers -/
def h1K : Key → Int
  | .inl i => hashInt i
  | .inr _ => 0
def isI : Key → Bool
  | .inl _ => true
  | .inr _ => false
def h1T (k : List Key) : Int := reduceHash (Builtin.Tuple.tupleHashOf (k.map h1K))
def nodupI : List Int → Bool
  | [] => true
  | i :: r => !(r.contains i) && nodupI r
theorem nodupI_ok : ∀ {l : List Int}, nodupI l = true → l.Nodup
  | [], _ => List.nodup_nil
  | i :: r, h => by
    unfold nodupI at h
    rw [Bool.and_eq_true] at h
    exact List.nodup_cons.mpr ⟨by simpa using h.1, nodupI_ok h.2⟩
def copyB (ks : List (List Key)) : Bool := ks.all (fun k => k.all isI) && nodupI (ks.map h1T)
theorem h1T_eq {P : Program} {w : World} {k : List Key} (h : k.all isI = true) : (tupleKind (mixKind P w)).hash k = h1T k := by
  show reduceHash (Builtin.Tuple.tupleHashOf (k.map (keyH w))) = _
  unfold h1T
  have : k.map (keyH w) = k.map h1K := List.map_congr_left fun x hx => by
    have := List.all_eq_true.mp h x hx
    cases x with
    | inl i => rfl
    | inr s => cases this
  rw [this]
section
variable {X : Cx} {C : Cf} {M : List Md} {Wx : WX} {pos apos cpos : Pos} {G : Gx}
def tCopyT (to : TE) : TE := fun σ H Q => to σ H fun x H1 => ∃ a kvs, x = .ref a ∧ Rd H1 a (.dT kvs) ∧ copyB (kvs.map Prod.fst) = true ∧ ∀ p, H1 p = none → Q (.ref p) (upd H1 p (.dT kvs))
theorem pe_copyT {o : Expr} {to : TE} (ho : PE X o to) (hbase : attributeBase o "copy" X.env (eval o X.env) = eval o X.env := by rfl) (hline : (apos.endLine == cpos.line) = true := by rfl) : PE X (.Call (.Attribute o "copy" apos) [] [] cpos) (tCopyT to) := by
  refine ⟨fun pins s σ H Q I h => ?_⟩
  refine wpAny_Call_method0_late hbase hline (thn (ho.run pins s σ H _ I h) fun v s1 ⟨x, H1, I1, r1, q1⟩ => ?_)
  obtain ⟨a, kvs, rfl, hd, hc, q⟩ := q1
  cases r1
  obtain ⟨z, lo, xs, rk, o, es, ep, e1, e2, e3, e4, e5⟩ := (show ObjOk X.prog X.w H1 s1.heap a (.dT kvs) from rd_of I1.hok hd)
  obtain ⟨z', lo', xs', rk', dd⟩ := dt_rd I1.hok hd
  have hl := Paired.length rk'
  have hk : ∀ {l : List (List Key × V)} {m : List (List Key × Addr × Value)}, Paired (fun (p : List Key × V) (q : List Key × Addr × Value) => p.1 = q.1 ∧ H1 q.2.1 = some (.tup (p.1.map kV)) ∧ RelV p.2 q.2.2) l m → (m.map fun q => q.1) = (l.map Prod.fst) ∧ ∀ x ∈ m, H1 x.2.1 = some (.tup (x.1.map kV)) := by
    intro l m p
    induction p with
    | nil => exact ⟨rfl, by simp⟩
    | @cons a b l m hq t ih =>
      refine ⟨by rw [List.map_cons, List.map_cons, ih.1, hq.1], fun x hx => ?_⟩
      rcases List.mem_cons.mp hx with rfl | hx
      · rw [← hq.1]; exact hq.2.1
      · exact ih.2 x hx
  obtain ⟨k1, k2⟩ := hk rk'
  refine ⟨"dict", "dict.copy", PySem.F.plainAttrs_dict, PySem.F.slot_dict_copy, PySem.F.type_dict_copy, ⟨o, e1, e2.1⟩, fun b eb => ?_, Calls.callWith_builtin rfl (PySem.evalArgs_none ?_)⟩
  · cases eb
    exact ⟨o, e1, e2.2.1⟩
  · refine call_copyH (knd := tupleKind (mixKind X.prog X.w)) lo dd (by rw [← hl]; exact z) (fun x hx => ?_) ?_ (fun h' kk x hx => ?_) fun h' dd' kk => ?_
    · obtain ⟨_, its, _, ob, b1, b2, _⟩ := (show ObjOk X.prog X.w H1 s1.heap x.2.1 (.tup (x.1.map kV)) from I1.hok _ _ (k2 x hx))
      exact ⟨ob, b1, b2⟩
    · unfold copyB at hc
      rw [Bool.and_eq_true, ← k1, List.map_map] at hc
      have hn := nodupI_ok hc.2
      have e : xs'.map (fun x => (tupleKind (mixKind X.prog X.w)).hash x.1) = xs'.map (h1T ∘ fun q => q.1) := List.map_congr_left fun x hx => h1T_eq (List.all_eq_true.mp hc.1 _ (List.mem_map_of_mem hx))
      rw [e]
      exact hn
    · have hK := key_of I1.hok (k2 x hx)
      exact (tupleKind_stays (knd := mixKind X.prog X.w)).all h' (fun b o _ e => kk b o e) _ _ hK
    · obtain ⟨o', es', ep', f1, f2, f3, f4, _, f5⟩ := dd'
      have hp : H1 s1.heap.objs.size = none := I1.hok.fresh (Nat.le_refl _)
      refine ⟨.ref s1.heap.objs.size, upd H1 s1.heap.objs.size (.dT kvs), I1.laid (a := s1.heap.objs.size) (o := .dT kvs) (t' := s1.toks) kk (Nat.le_refl _) ⟨z, ?_, xs', rk'.keeps fun c ys ec => ?_, o', es', ep', f1, f2, f3, f4, f5⟩, rfl, q _ hp⟩
      · exact beq_eq_false_iff_ne.mpr (Ne.symm (Nat.ne_of_lt I1.big))
      · rw [upd_ne (fun e => by rw [e, hp] at ec; cases ec)]
        exact ec
def copyTW : D → W D := fun x Q _ => match x with | .dtt ks ds => copyB ks = true ∧ Q (.dtt ks ds) | _ => False
theorem de_copyT {e : Expr} {we : Env → W D} (he : DE X C M Wx .v e we) (hbase : attributeBase e "copy" X.env (eval e X.env) = eval e X.env := by rfl) (hline : (apos.endLine == cpos.line) = true := by rfl) : DE X C M Wx (.n 1) (.Call (.Attribute e "copy" apos) [] [] cpos) (unW copyTW we) := by
  obtain ⟨te, pe, se⟩ := he.ex
  refine ⟨_, pe_copyT pe hbase hline, fun F H σ ρ s Qd Ed Q hw hq hx => ?_⟩
  refine se F H σ ρ s _ Ed _ hw (fun d v F1 H1 g1 i1 hw2 => ?_) hx
  cases d <;> try exact hw2.elim
  rename_i ks ds
  obtain ⟨hc, hw3⟩ := hw2
  obtain ⟨a, vs, rfl, h1, h2, h3⟩ := i1
  subst h2
  refine ⟨a, vs, rfl, (g1.fh.trans hid_ex).rd h1, hc, fun p hp => ?_⟩
  have s1 := s.gr g1
  have fp := (s1.base.nofresh hp).1
  refine hq (.dtt (vs.map Prod.fst) ds) (.ref p) F1 _ (g1.trans (Gr.laid s1.base.fh s1.base.pool hp)) ⟨[p], ⟨p, vs, [], rfl, fp, upd_same, rfl, OwnL.of h3, rfl⟩, by simp, fun l hl => ?_⟩ hw3
  rw [List.mem_singleton] at hl
  subst hl
  exact g1.back g1.pool l hp
end
def copyTX : D → Res D | .dtt ks ds => Res.iff (copyB ks) (.ok (.dtt ks ds)) | _ => .bad
instance : Run1 copyTW := ⟨copyTX, fun x Q E h => by
  cases x <;> try exact h.elim
  exact post_iff h⟩
/-! ### d[k] = e, k a tuple -/
def dttAt (ρ : Env) (i : Nat) (f : List (List Key) → List D → Prop) : Prop := match ρ[i]? with | some (some (.dtt ks ds)) => f ks ds | _ => False
theorem dttAt_some {ρ : Env} {i : Nat} {f : List (List Key) → List D → Prop} (h : dttAt ρ i f) : ∃ ks ds, ρ[i]? = some (some (.dtt ks ds)) ∧ f ks ds := by
  unfold dttAt at h
  split at h
  · exact ⟨_, _, by assumption, h⟩
  · cases h
def keyT : D → Option (List Key) | .tup xs => keysOf xs | _ => none
def putTW (i : Nat) (wk we : Env → W D) : Env → W Fl := fun ρ Q E => dttAt ρ i fun ks ds => we ρ (fun d => wk ρ (fun y => match keyT y with | some k => ks.length < 16777216 ∧ Q (.next (ρ.set i (some (.dtt (putD ks ds k d).1 (putD ks ds k d).2)))) | none => False) E) E
section
variable {X : Cx} {C : Cf} {Ml M : List Md} {rk : Kd} {Wx : WX} {pos p2 p3 : Pos}
theorem ds_putT {i : Nat} {x : Str} {e k : Expr} {we wk : Env → W D} (hu : X.A.units + 1 < cLine) (hM : ownAt M i = some 1) (hN : X.N[i]? = some x) (hv : Vis X.env.scope x) (he : DE X C M Wx .v e we) (hk : DE X C M Wx .v k wk) (hd : (x == ("__debug__" : Str)) = false := by decide) (hcd : (x == ("__classdict__" : Str)) = false := by decide)
    (hs : swapsWith e (some (.Subscript (.Name x p2) k p3)) pos.line X.env = pure false := by rfl) : DS X C Ml rk Wx M M (.Assign [.Subscript (.Name x p2) k p3] e pos) (putTW i wk we) := by
  obtain ⟨te, pe, se⟩ := he.ex
  obtain ⟨tk, pk, sk⟩ := hk.ex
  refine ⟨_, ps_dput hu (pe_var hN hv hd hcd) pk pe hs, fun F H σ ρ r Qd Ed D_ hw hn _ _ _ hx => ?_⟩
  obtain ⟨ks, ds, e0, hw⟩ := dttAt_some hw
  obtain ⟨v, fp, e1, o1, _, _, _⟩ := r.mut (Gr.refl r.base.fh r.base.pool) hM e0
  refine se F H σ ρ r _ Ed _ hw (fun d u F1 H1 g k1 hw2 => ?_) fun x cls dd F' H' g i q => hx x cls dd σ F' H' g.ff (r.base.gr g) i q
  refine ⟨v, e1, ?_⟩
  refine sk F1 H1 σ ρ (r.gr g) _ Ed _ hw2 (fun d2 u2 F2 H2 g2 k2 hw3 => ?_) fun x cls dd F' H' g2 i q => hx x cls dd σ F' H' (g.trans g2).ff (r.base.gr (g.trans g2)) i q
  split at hw3
  · rename_i kk ek
    cases d2 <;> try (cases ek; done)
    rename_i ys
    obtain ⟨b, vs', rfl, t1, t2⟩ := k2
    have ek : keysOf ys = some kk := ek
    have g12 := g.trans g2
    obtain ⟨v', fp, e1', o1, nd, out, fin⟩ := r.mut g12 hM e0
    rw [e1] at e1'; cases e1'
    have o1 : ∃ l vs r, v = .ref l ∧ F2 l = none ∧ H2 l = some (.dT vs) ∧ vs.map Prod.fst = ks ∧ OwnL (gx X C) F2 H2 ds 0 (vs.map Prod.snd) r ∧ fp = l :: r := o1
    obtain ⟨l, vs, r1, rfl, q1, q2, q4, q3, rfl⟩ := o1
    obtain ⟨i3, rfl⟩ := zero_own q3
    have hs : sizeLine = 16777216 := sizeLine_eq
    have hlen : vs.length = ks.length := by rw [← q4, List.length_map]
    refine ⟨l, _, rfl, .inr ⟨vs, kk, b, q2, rfl, by rw [← keysOf_v t2 ek]; exact (hid_some (g2.fh _ _ t1)).2, by rw [hlen, hs]; exact hw3.1, rfl⟩, ?_⟩
    subst q4
    refine hn σ _ F2 _ g12.ff (fin (upd H2 l (.dT (putK vs kk u))) (.dtt _ _) [l] (fun a o ha e => by rw [upd_ne (fun z => ha (by simp [z]))]; exact e) ⟨l, putK vs kk u, [], rfl, q1, upd_same, putK_keys vs ds d, OwnL.of (putK_is (Is.mono g2.ff _ _ k1) i3), rfl⟩ nd fun a ha => .inl ha) hw3.2
  · cases hw3
end
def dttX (ρ : Env) (i : Nat) (f : List (List Key) → List D → Res Fl) : Res Fl := match ρ[i]? with | some (some (.dtt ks ds)) => f ks ds | _ => .bad
theorem dttX_ok {ρ : Env} {i : Nat} {f : List (List Key) → List D → Res Fl} {k : List (List Key) → List D → Prop} {Q : Fl → Prop} {E : Xn → Prop} (h : (dttX ρ i f).post Q E) (hk : ∀ ks ds, (f ks ds).post Q E → k ks ds) : dttAt ρ i k := by
  unfold dttX at h
  unfold dttAt
  split at h
  · rename_i ks ds e
    first | exact hk _ _ h | (rw [e]; exact hk _ _ h)
  · exact h.elim
instance {i : Nat} {wk wa : Env → W D} [hk : RunE wk] [ha : RunE wa] : RunE (putTW i wk wa) where
  x := fun ρ => dttX ρ i fun ks ds => (ha.x ρ).bind fun d => (hk.x ρ).bind fun y => (Res.opt (keyT y)).bind fun k => Res.iff (decide (ks.length < 16777216)) (.ok (.next (ρ.set i (some (.dtt (putD ks ds k d).1 (putD ks ds k d).2)))))
  ok := fun ρ Q E h => dttX_ok h fun ks ds q => by
    rw [post_bind] at q
    refine ha.ok _ _ _ (post_mono q (fun d q => ?_) fun _ e => e)
    rw [post_bind] at q
    refine hk.ok _ _ _ (post_mono q (fun y q => ?_) fun _ e => e)
    rw [post_bind] at q
    obtain ⟨k, ek, q⟩ := post_opt q
    rw [ek]
    obtain ⟨h1, h2⟩ := post_iff q
    exact ⟨of_decide_eq_true h1, h2⟩
end DL

namespace DL
open PySem PySem.Spec PyProof.Rows L2

/-! ### sorted(xs, key=len), the items tuples -/
def tlD : D → Nat
  | .tup xs => xs.length
  | _ => 0
def leL (a b : D × V) : Bool := decide ((tlD a.1 : Int) ≤ tlD b.1)
section
variable {X : Cx} {C : Cf} {M : List Md} {Wx : WX} {pos p p3 kpos : Pos} {G : Gx}
theorem sort_len {pins : List (Addr × Obj)} {s : Shared} {σ : L2.St} {H : Hp} {Q : VK} (hu : X.A.units + 62 < cLine) (I : Inv X pins σ H s) {a : Addr} {ps : List (D × V)} (hs : SqL X.K H a (ps.map Prod.snd)) (hp : ∀ p ∈ ps, ∃ t vs, p.2 = .ref t ∧ H t = some (.tup vs) ∧ tlD p.1 = vs.length)
    (q : ∀ p, H p = none → Q (.ref p) (upd H p (.lst ((ps.mergeSort leL).map Prod.snd)))) : wpAny (model X.prog X.w) X.A (call (.builtin "sorted") [.ref a] [(Str.ofString "key", .builtin "len")]) (EP X pins σ Q) X.xe s := by
  obtain ⟨its, rv, hl, hz⟩ := I.list hs
  have e : PySem.W.EachIs (fun (v : Value) (p : D × V) => RelV p.2 v) its ps := each_vals rv
  have hsz : sizeLine = 16777216 := sizeLine_eq
  have hlen := rv.length
  rw [List.length_map] at hlen hz
  refine PySem.W.sorted_key_data (b := false) (fun p : D × V => .int ((tlD p.1 : Nat) : Int)) hl.isList e (PySem.W.AllAlike.of fun _ _ => by simp [PySem.W.alike]) ?_ hz (fun x _ => ?_) (PyProof.Rows.ksk_s1 _ _) (fun _ => PyProof.Rows.ksk_l1 _ _) (fun _ => PyProof.Rows.ksk_t4 _ _) (fun v x rx hx h tk kp => ?_) fun out c h' tk kp hn hD ho eo => ?_
  · exact PySem.W.Sortable.others (enc := fun p : D × V => PyData.int ((tlD p.1 : Nat) : Int)) (bs := ps) fun b => ⟨(by intro z; cases z), (by intro xs z; cases z)⟩
  · simp only [PyData.depth]
    omega
  · obtain ⟨t, vs, e1, e2, e3⟩ := hp x hx
    rw [e1] at rx
    cases rx
    obtain ⟨its2, r2, pl, hz2⟩ := I.tuple (show SqT X.K H t vs from .inl (.inl e2))
    obtain ⟨o, ho, hc, n, hd⟩ := pl
    have hl2 := r2.length
    refine len_tuple (⟨o, kp _ _ ho, hc, n, hd⟩ : IsTup h t its2.toArray) (by simp only [List.size_toArray]; have := line63; omega) ?_
    refine ⟨h, tk + 1 + 1, rfl, fun _ _ e => e, ?_⟩
    rw [e3, hl2]
    simp only [List.size_toArray]
    exact .int _ _
  · rw [PySem.W.dataLe_int (β := D × V) (fun p => ((tlD p.1 : Nat) : Int))] at eo
    refine ⟨.ref (s.heap.objs.size + 1), upd H (s.heap.objs.size + 1) (.lst ((ps.mergeSort leL).map Prod.snd)), I.laid (t' := tk) kp (Nat.le_succ _) ⟨?_, out, c, vals_each eo, hD⟩, rfl, q _ (I.hok.fresh (Nat.le_succ _))⟩
    rw [List.length_map, List.length_mergeSort]
    exact hz
def tSortLen (te : TE) : TE := fun σ H Q => te σ H fun x H1 => ∃ (a : Addr) (ps : List (D × V)), x = .ref a ∧ SqL X.K H1 a (ps.map Prod.snd) ∧ (∀ p ∈ ps, ∃ t vs, p.2 = .ref t ∧ H1 t = some (.tup vs) ∧ tlD p.1 = vs.length) ∧ ∀ p, H1 p = none → Q (.ref p) (upd H1 p (.lst ((ps.mergeSort leL).map Prod.snd)))
def qSortLen (X : Cx) (Q : VK) : List V → Hp → Prop
  | [x], H1 => ∃ (a : Addr) (ps : List (D × V)), x = .ref a ∧ SqL X.K H1 a (ps.map Prod.snd) ∧ (∀ p ∈ ps, ∃ t vs, p.2 = .ref t ∧ H1 t = some (.tup vs) ∧ tlD p.1 = vs.length) ∧ ∀ p, H1 p = none → Q (.ref p) (upd H1 p (.lst ((ps.mergeSort leL).map Prod.snd)))
  | _, _ => False
theorem pe_sortLen {e : Expr} {te : TE} (hu : X.A.units + 62 < cLine) (hg : Gl X "sorted") (hm : X.mg "sorted" = none) (hg2 : Gl X "len") (hm2 : X.mg "len" = none) (he0 : PE X e te)
    (he : backTo pos (starEach [e] X.env) = (false, eval e X.env) :: backTo pos (starEach [] X.env) := by rfl) (hpl : (backTo pos (starEach [e] X.env)).any (·.1) = false := by rfl)
    (hs0 : starEach [e] X.env = (false, eval e X.env) :: starEach [] X.env := by rfl) :
    PE X (.Call (.Name "sorted" p) [e] [⟨some "key", .Name "len" p3, kpos⟩] pos) (tSortLen (X := X) te) := by
  refine ⟨fun pins s σ H Q I h => ?_⟩
  refine wpAny_Call_Name_kw (ld_blt I hg hm (by decide +kernel : bootBuiltins "sorted" = some (.builtin "sorted")) ?_ (by decide) (by decide))
  have hall : (backToKw pos (keywordEach [⟨some "key", .Name "len" p3, kpos⟩] X.env)).all (·.1.isSome) = true := by rfl
  have hnone : (backToKw pos (keywordEach [⟨some "key", .Name "len" p3, kpos⟩] X.env)).any (·.1.isNone) = false := by rfl
  refine PyProof.Rows.callWith_kw (thn ((pa_cons he0 pa_nil hs0).run pos pins s σ H (qSortLen X Q) I h) fun us s1 ⟨vs, H1, I1, r1, q1⟩ => ?_) he hpl hall hnone
  match vs, q1 with
  | [x], q1 =>
  obtain ⟨a, ps, rfl, hs, hp, q⟩ := q1
  rw [Vals.ref1 r1]
  refine PyProof.Rows.kws_cons (ld_blt I1 hg2 hm2 (by decide +kernel : bootBuiltins "len" = some (.builtin "len")) ?_ (by decide) (by decide))
  refine PyProof.Rows.kws_nil ?_
  exact sort_len hu I1 hs hp q
def leN (a b : D) : Bool := decide ((tlD a : Int) ≤ tlD b)
def sortN (xs : List D) : List D := xs.mergeSort leN
theorem sortN_fst (ps : List (D × V)) : (ps.mergeSort leL).map Prod.fst = sortN (ps.map Prod.fst) := List.map_mergeSort fun a _ b _ => rfl
def sortLenW : D → W D := fun x Q _ => match x with | .lst xs => xs.all isTup = true ∧ Q (.lst (sortN xs)) | _ => False
theorem de_sortLen {e : Expr} {we : Env → W D} (hu : X.A.units + 62 < cLine) (hg : Gl X "sorted") (hm : X.mg "sorted" = none) (hg2 : Gl X "len") (hm2 : X.mg "len" = none) (he0 : DE X C M Wx .v e we)
    (he : backTo pos (starEach [e] X.env) = (false, eval e X.env) :: backTo pos (starEach [] X.env) := by rfl) (hpl : (backTo pos (starEach [e] X.env)).any (·.1) = false := by rfl)
    (hs0 : starEach [e] X.env = (false, eval e X.env) :: starEach [] X.env := by rfl) : DE X C M Wx (.n 1) (.Call (.Name "sorted" p) [e] [⟨some "key", .Name "len" p3, kpos⟩] pos) (unW sortLenW we) := by
  obtain ⟨te, pe, se⟩ := he0.ex
  refine ⟨_, pe_sortLen hu hg hm hg2 hm2 pe he hpl hs0, fun F H σ ρ s Qd Ed Q hw hq hx => ?_⟩
  refine se F H σ ρ s _ Ed _ hw (fun d v F1 H1 g1 i1 hw2 => ?_) hx
  cases d <;> try exact hw2.elim
  rename_i ds
  obtain ⟨hal, hw3⟩ := hw2
  obtain ⟨a, vs, rfl, h1, h2⟩ := i1
  obtain ⟨z1, z2, z3⟩ := zip_is h2
  have s1 := s.gr g1
  refine ⟨a, ds.zip vs, rfl, .inl (.inl (by rw [z2]; exact (g1.fh.trans hid_ex) _ _ h1)), fun p hp => ?_, fun p hp => ?_⟩
  · have hm : p.1 ∈ ds := by rw [← z1]; exact List.mem_map_of_mem hp
    have ht := List.all_eq_true.mp hal _ hm
    have hi := z3 p hp
    generalize p.1 = d at ht hi
    cases d <;> try cases ht
    rename_i xs
    obtain ⟨t, us, e1, e2, e3⟩ := hi
    exact ⟨t, us, e1, (g1.fh.trans hid_ex) _ _ e2, (IsL.len e3).symm⟩
  · have i3 := is_of_zip (G := gx X C) (H := F1) (ps := (ds.zip vs).mergeSort leL) fun p hp => z3 p ((List.mergeSort_perm _ _).mem_iff.mp hp)
    rw [sortN_fst, z1] at i3
    have fp := (s1.base.nofresh hp).1
    refine hq (.lst (sortN ds)) (.ref p) F1 _ (g1.trans (Gr.laid s1.base.fh s1.base.pool hp)) ⟨[p], ⟨p, _, [], rfl, fp, upd_same, OwnL.of i3, rfl⟩, by simp, fun l hl => ?_⟩ hw3
    rw [List.mem_singleton] at hl
    subst hl
    exact g1.back g1.pool l hp
end
section
variable {Q : D → Prop} {E : Xn → Prop}
theorem o_sortN {xs : List D} : sortLenW (.lst xs) Q E = (xs.all isTup = true ∧ Q (.lst (sortN xs))) := nr rfl
end
/-! to be run -/
def insN (x : D) : List D → List D
  | [] => [x]
  | y :: ys => if leN x y = true then x :: y :: ys else y :: insN x ys
def isortN : List D → List D
  | [] => []
  | x :: xs => insN x (isortN xs)
theorem leN_trans (a b c : D) (h1 : leN a b = true) (h2 : leN b c = true) : leN a c = true := by
  unfold leN at *
  rw [decide_eq_true_iff] at *
  omega
theorem leN_total (a b : D) : (leN a b || leN b a) = true := by
  unfold leN
  rw [Bool.or_eq_true, decide_eq_true_iff, decide_eq_true_iff]
  omega
theorem insN_at {x : D} {l2 : List D} (h2 : ∀ b ∈ l2, leN x b = true) : ∀ l1 : List D, (∀ b ∈ l1, (!leN x b) = true) → insN x (l1 ++ l2) = l1 ++ x :: l2
  | [], _ => by
    cases l2 with
    | nil => rfl
    | cons y ys => show insN x (y :: ys) = _; unfold insN; rw [if_pos (h2 y (by simp))]; rfl
  | b :: l1, h => by
    have hb := h b (by simp)
    show insN x (b :: (l1 ++ l2)) = _
    unfold insN
    rw [if_neg (by simpa using hb), insN_at h2 l1 fun c hc => h c (by simp [hc])]
    rfl
theorem sortN_run : ∀ xs : List D, sortN xs = isortN xs
  | [] => by unfold sortN isortN; exact List.mergeSort_nil
  | x :: xs => by
    unfold isortN
    rw [← sortN_run xs]
    obtain ⟨l1, l2, e1, e2, h1⟩ := List.mergeSort_cons (le := leN) leN_trans leN_total x xs
    have hs := List.pairwise_mergeSort (le := leN) leN_trans leN_total (x :: xs)
    unfold sortN
    rw [e1, e2, insN_at ?_ l1 h1]
    intro b hb
    rw [e1] at hs
    have := (List.pairwise_append.mp hs).2.1
    exact (List.pairwise_cons.mp this).1 b hb
def sortLenX : D → Res D | .lst xs => Res.iff (xs.all isTup) (.ok (.lst (isortN xs))) | _ => .bad
instance : Run1 sortLenW := ⟨sortLenX, fun x Q E h => by
  cases x <;> try exact h.elim
  obtain ⟨h1, h2⟩ := post_iff h
  refine ⟨h1, ?_⟩
  rw [sortN_run]
  exact h2⟩
end DL

namespace DL
open PySem PySem.Spec PyProof.Rows L2

/-! ### sorted(set(xs)), xs tuples of whole numbers -/
def tupI (ns : List Int) : D := .tup (ns.map .int)
def leQ (a b : Addr × List Int) : Bool := leD (tupI a.2) (tupI b.2)
theorem tupI_plain (ns : List Int) : plain 50 (tupI ns) = true := by
  show DL.plain 50 (.tup (ns.map .int)) = true
  unfold DL.plain
  rw [List.all_eq_true]
  intro d hd
  obtain ⟨i, _, rfl⟩ := List.mem_map.mp hd
  rfl
theorem ints_vals {G : Gx} {H : Hp} : ∀ ns : List Int, IsL G H (ns.map D.int) (ns.map V.int)
  | [] => rfl
  | i :: ns => ⟨_, _, rfl, rfl, ints_vals ns⟩
theorem tupI_is {G : Gx} {H : Hp} {a : Addr} {ns : List Int} (h : H a = some (.tup (ns.map V.int))) : Is G H (tupI ns) (.ref a) := ⟨a, _, rfl, h, ints_vals ns⟩
theorem tupIs_ok (L : List (List Int)) : sortOk (L.map tupI) = true := by
  unfold sortOk
  rw [Bool.and_eq_true, Bool.and_eq_true]
  refine ⟨⟨List.all_eq_true.mpr fun d hd => ?_, List.all_eq_true.mpr fun d hd => List.all_eq_true.mpr fun e he => ?_⟩, ?_⟩
  · obtain ⟨k, _, rfl⟩ := List.mem_map.mp hd
    exact tupI_plain k
  · obtain ⟨k, _, rfl⟩ := List.mem_map.mp hd
    obtain ⟨l, _, rfl⟩ := List.mem_map.mp he
    have : ∀ k l : List Int, PySem.W.alikeAll (pyL (k.map D.int)) (pyL (l.map D.int)) = true := by
      intro k
      induction k with
      | nil => intro l; cases l <;> simp [pyL, PySem.W.alikeAll]
      | cons i k ih =>
        intro l
        cases l with
        | nil => simp [pyL, PySem.W.alikeAll]
        | cons j l =>
          simp only [List.map_cons, pyL, PySem.W.alikeAll, py, PySem.W.alike, Bool.true_and]
          exact ih l
    simp only [alikeD, tupI, py, PySem.W.alike]
    exact this k l
  · rw [Bool.or_eq_true]
    refine .inl (List.all_eq_true.mpr fun d hd => ?_)
    obtain ⟨k, _, rfl⟩ := List.mem_map.mp hd
    rfl
theorem each_refs : ∀ L1 : List (Addr × List Int), PySem.W.EachIs (fun (v : Value) (q : Addr × List Int) => v = .ref q.1) (L1.map fun q => Value.ref q.1) L1
  | [] => .nil
  | q :: r => .cons rfl (each_refs r)
/-- what stands for a list of images, in another order, is a list of images -/
theorem map_back {α β : Type} {f : α → β} {vs us : List β} (h : vs.Perm us) : ∀ L : List α, us = L.map f → ∃ L1 : List α, L1.Perm L ∧ vs = L1.map f := by
  induction h with
  | nil =>
    intro L e
    have : L = [] := by simpa using e.symm
    exact ⟨[], by rw [this], rfl⟩
  | cons x _ ih =>
    intro L e
    cases L with
    | nil => cases e
    | cons a L =>
      rw [List.map_cons, List.cons.injEq] at e
      obtain ⟨L1, p, q⟩ := ih L e.2
      exact ⟨a :: L1, p.cons a, by rw [q, e.1]; rfl⟩
  | swap x y l =>
    intro L e
    match L, e with
    | [], e => cases e
    | [a], e => cases e
    | a :: b :: L, e =>
      rw [List.map_cons, List.map_cons, List.cons.injEq, List.cons.injEq] at e
      exact ⟨b :: a :: L, .swap a b L, by rw [e.1, e.2.1, e.2.2]; rfl⟩
  | trans _ _ i1 i2 =>
    intro L e
    obtain ⟨L2, p2, q2⟩ := i2 L e
    obtain ⟨L1, p1, q1⟩ := i1 L2 q2
    exact ⟨L1, p1.trans p2, q1⟩
def rSortSet (P : Program) (w : World) : List V → Hp → VK → Prop := fun vs H Q => ∃ (a : Addr) (L : List (Addr × List Int)), vs = [V.ref a] ∧ H a = some (SetTO P w a L) ∧ (∀ p ∈ L, H p.1 = some (.tup (p.2.map V.int))) ∧
  ∀ (L1 : List (Addr × List Int)) (p : Addr), L1.Perm L → (L1.map (·.2)).Nodup → H p = none → Q (.ref p) (upd H p (.lst ((L1.mergeSort leQ).map fun q => V.ref q.1)))
section
variable {X : Cx} {C : Cf} {M : List Md} {Wx : WX} {pos : Pos} {G : Gx}
theorem cr_sortSet (hc : X.calm = true) (hu : X.A.units + 62 < cLine) : CallR X (.builtin "sorted") (rSortSet X.prog X.w) := by
  intro pins s σ H vs us Q I r h
  obtain ⟨a, L, rfl, ha, hk, q⟩ := h
  have R0 : SetT0 X.prog X.w s.heap a L := (I.hok a _ ha).1
  have hsq : ∀ p ∈ L, SqT X.K H p.1 (p.2.map V.int) := fun p hp => .inl (.inl (hk p hp))
  obtain ⟨es, ep, t, R⟩ := R0.full fun p hp => I.isT (hsq p hp)
  rw [Vals.ref1 r]
  obtain ⟨o, ho, hex, hd⟩ := R.ob
  have hsz := R.size
  have hfew := R.few
  refine Calls.call_function_entry kind_sorted plain_sorted entry_sorted (args_sorted1 _) ?_
  unfold Builtin.«sorted»
  refine wpAny_bind (m := checkCount "sorted" 1 1 _) (wpAny_pure ?_)
  refine wpAny_bind (collect_set (A := X.A.in1) (I.ok.hd hc) ⟨o, ho, hex.1, hd⟩ R.fits (by unfold scanBound; omega) R.tab.ris R.led fun s1 vs k1 hz g1 o1 pm => ?_)
  have hes : es.toList.map (·.2) = L.map fun q => Value.ref q.1 := by
    rw [R.rows]
    unfold rowsOf
    rw [List.map_map] <;> rfl
  rw [hes] at pm
  obtain ⟨L1, pL, rfl⟩ := map_back pm L rfl
  have hL1 : ∀ q ∈ L1, q ∈ L := fun q hq => pL.mem_iff.mp hq
  have hvl : (L1.map fun q => Value.ref q.1).length < 64 := by rw [List.length_map, pL.length_eq]; exact hfew
  refine wpAny_bind (wpAny_newList ?_ (by rw [sizeLine_eq]; omega))
  have hob : (s1.heap.push (seqObj "list" (L1.map fun q => Value.ref q.1).toArray 0)).get? s1.heap.objs.size = some (seqObj "list" (L1.map fun q => Value.ref q.1).toArray 0) := Heap.get?_push_size _ rfl
  generalize hus : (L1.map fun q => Value.ref q.1) = us at *
  have e : PySem.W.EachIs (fun (v : Value) (q : Addr × List Int) => v = .ref q.1) us L1 := by
    rw [← hus]
    exact each_refs L1
  have up : ∀ b o, s.heap.get? b = some o → (PySem.W.sortingHeap (s1.heap.push (seqObj "list" us.toArray 0)) s1.heap.objs.size us).get? b = some o := fun b o hb => by
    have hb' := k1 b o hb
    exact PySem.W.sortingHeap_old (Nat.ne_of_lt (Heap.lt_size hb')) (Heap.get?_push_of_some _ hb')
  have er : PySem.W.EachIs (fun v (q : Addr × List Int) => ∃ as, Reads (PySem.W.sortingHeap (s1.heap.push (seqObj "list" us.toArray 0)) s1.heap.objs.size us) v (py (tupI q.2)) as) us L1 :=
    (PySem.W.each_mem e).mono fun v q hq => by
      have dp := Is.dp (G := ⟨X.K, X.mg, []⟩) 50 _ _ (tupI_plain q.2) (tupI_is (hk q (hL1 q hq.2)))
      obtain ⟨as, r⟩ := Dp.reads I _ (V.ref q.1) (.ref q.1) dp rfl
      rw [hq.1]
      exact ⟨as, PyProof.Rows.Reads.keeps up r⟩
  have ok : sortOk (L1.map fun q => tupI q.2) = true := by
    have := tupIs_ok (L1.map (·.2))
    rw [List.map_map] at this
    exact this
  have hal : PySem.W.AllAlike (L1.map fun q : Addr × List Int => py (tupI q.2)) := by
    have := sortOk_alike ok; rw [List.map_map] at this; exact this
  have hab : DLS.Sortable2 (L1.map fun q : Addr × List Int => py (tupI q.2)) := by
    have := sortOk_able ok; rw [List.map_map] at this; exact this
  have hlu : us.length ≤ sizeLine := by rw [sizeLine_eq]; omega
  refine wpAny_bind (wpAny_holding (wpAny_call_entry PyProof.Rows.slot_list_sort ⟨_, hob, rfl⟩ PyProof.Rows.entry_list_sort
    (PySem.W.list_sort_vals hob (DLS.SortsAt.data2 (s := { s1 with heap := PySem.W.sortingHeap (s1.heap.push (seqObj "list" us.toArray 0)) s1.heap.objs.size us }) (PySem.W.each_map (R := fun v d => ∃ as, Reads (PySem.W.sortingHeap (s1.heap.push (seqObj "list" us.toArray 0)) s1.heap.objs.size us) v d as) (fun q : Addr × List Int => py (tupI q.2)) er) hal hab fun d hd => ?_) hlu ⟨.none, rfl, ?_⟩) (PyProof.Rows.args_list_sort _)))
  · obtain ⟨q, hq, rfl⟩ := List.mem_map.mp hd
    have := (plain_lay 50 (tupI q.2) (tupI_plain q.2)).2
    show X.A.units + 1 + 1 + (py (tupI q.2)).depth < cLine
    omega
  · have e2 := PySem.W.sortVals_data (h' := PySem.W.sortingHeap (s1.heap.push (seqObj "list" us.toArray 0)) s1.heap.objs.size us) (R := fun (v : Value) (q : Addr × List Int) => v = .ref q.1) (enc := fun q : Addr × List Int => py (tupI q.2)) false e er hal
    obtain ⟨ep2, he'⟩ := PyProof.Rows.sortedHeap_at (vs := us) (out := (PySem.W.sortVals (PySem.W.dataKind (PySem.W.sortingHeap (s1.heap.push (seqObj "list" us.toArray 0)) s1.heap.objs.size us) (L1.map fun q : Addr × List Int => py (tupI q.2))) false us us).toArray) hob
    refine wpAny_pure ⟨_, rfl, ?_⟩
    have hn : H s1.heap.objs.size = none := I.hok.fresh hz
    have hv : ∀ {vs : List Value} {L : List (Addr × List Int)}, PySem.W.EachIs (fun (v : Value) (q : Addr × List Int) => v = .ref q.1) vs L → Vals (L.map fun q => V.ref q.1) vs := by
      intro vs L h
      induction h with
      | nil => exact .nil
      | cons a b ih => exact .cons (by rw [a]; rfl) ih
    have k2 : ∀ b o, s.heap.get? b = some o → (sortedHeap (s1.heap.push (seqObj "list" us.toArray 0)) s1.heap.objs.size us (PySem.W.sortVals (PySem.W.dataKind (PySem.W.sortingHeap (s1.heap.push (seqObj "list" us.toArray 0)) s1.heap.objs.size us) (L1.map fun q : Addr × List Int => py (tupI q.2))) false us us).toArray).get? b = some o := fun b o hb => by
      have hb' := k1 b o hb
      have hlt := Heap.lt_size hb'
      have hb2 : (s1.heap.push (seqObj "list" us.toArray 0)).get? b = some o := Heap.get?_push_of_some _ hb'
      rw [PyProof.Rows.sortedHeap_old (Nat.ne_of_lt hlt) (Heap.lt_size hb2)]
      exact hb2
    have J : Inv X pins σ (upd H s1.heap.objs.size (.lst ((L1.mergeSort leQ).map fun q => V.ref q.1))) { s with heap := sortedHeap (s1.heap.push (seqObj "list" us.toArray 0)) s1.heap.objs.size us (PySem.W.sortVals (PySem.W.dataKind (PySem.W.sortingHeap (s1.heap.push (seqObj "list" us.toArray 0)) s1.heap.objs.size us) (L1.map fun q : Addr × List Int => py (tupI q.2))) false us us).toArray, gens := s1.gens, drawn := s1.drawn, toks := s1.toks } :=
      I.call (ch := []) (Un.laid k2 hz hn) (I.hok.laid k2 hz ⟨by rw [List.length_map, List.length_mergeSort, sizeLine_eq, ← List.length_map (f := fun q => Value.ref q.1), hus]; omega, _, ep2, hv e2, he'⟩) (by rw [g1]; exact I.bare) (fun _ z => nomatch z)
    have es1 : ({ s1 with heap := sortedHeap (s1.heap.push (seqObj "list" us.toArray 0)) s1.heap.objs.size us (PySem.W.sortVals (PySem.W.dataKind (PySem.W.sortingHeap (s1.heap.push (seqObj "list" us.toArray 0)) s1.heap.objs.size us) (L1.map fun q : Addr × List Int => py (tupI q.2))) false us us).toArray } : Shared) = { s with heap := sortedHeap (s1.heap.push (seqObj "list" us.toArray 0)) s1.heap.objs.size us (PySem.W.sortVals (PySem.W.dataKind (PySem.W.sortingHeap (s1.heap.push (seqObj "list" us.toArray 0)) s1.heap.objs.size us) (L1.map fun q : Addr × List Int => py (tupI q.2))) false us us).toArray, gens := s1.gens, drawn := s1.drawn, toks := s1.toks } := by
      cases s1
      cases s
      cases o1
      rfl
    exact ⟨.ref s1.heap.objs.size, _, es1 ▸ J, rfl, q L1 _ pL ((pL.map (·.2)).nodup_iff.mpr R.nd) hn⟩
end
/-! ### the order is antisymmetric on nested tuples of whole numbers -/
mutual
def nestP : PyData → Bool
  | .int _ => true
  | .tuple xs => nestPL xs
  | _ => false
def nestPL : List PyData → Bool
  | [] => true
  | x :: xs => nestP x && nestPL xs
end
mutual
theorem toks_inj : ∀ (a b : PyData) (r r' : List (Int ⊕ List Nat)), nestP a = true → nestP b = true → PySem.W.alike a b = true → PySem.W.keyToks a ++ r = PySem.W.keyToks b ++ r' → a = b ∧ r = r'
  | .int i, .int j, r, r', _, _, _, h => by
    simp only [PySem.W.keyToks, List.cons_append, List.nil_append, List.cons.injEq, Sum.inl.injEq] at h
    exact ⟨by rw [h.1], h.2⟩
  | .tuple xs, .tuple ys, r, r', ha, hb, k, h => by
    simp only [PySem.W.keyToks] at h
    simp only [nestP] at ha hb
    simp only [PySem.W.alike] at k
    obtain ⟨e1, e2⟩ := toksL_inj xs ys r r' ha hb k h
    exact ⟨by rw [e1], e2⟩
  | .none, _, _, _, ha, _, _, _ => by simp [nestP] at ha
  | .bool _, _, _, _, ha, _, _, _ => by simp [nestP] at ha
  | .str _, _, _, _, ha, _, _, _ => by simp [nestP] at ha
  | .list _, _, _, _, ha, _, _, _ => by simp [nestP] at ha
  | .dict _, _, _, _, ha, _, _, _ => by simp [nestP] at ha
  | .int _, .tuple _, _, _, _, _, k, _ => by simp [PySem.W.alike] at k
  | .tuple _, .int _, _, _, _, _, k, _ => by simp [PySem.W.alike] at k
  | .int _, .none, _, _, _, hb, _, _ => by simp [nestP] at hb
  | .int _, .bool _, _, _, _, hb, _, _ => by simp [nestP] at hb
  | .int _, .str _, _, _, _, hb, _, _ => by simp [nestP] at hb
  | .int _, .list _, _, _, _, hb, _, _ => by simp [nestP] at hb
  | .int _, .dict _, _, _, _, hb, _, _ => by simp [nestP] at hb
  | .tuple _, .none, _, _, _, hb, _, _ => by simp [nestP] at hb
  | .tuple _, .bool _, _, _, _, hb, _, _ => by simp [nestP] at hb
  | .tuple _, .str _, _, _, _, hb, _, _ => by simp [nestP] at hb
  | .tuple _, .list _, _, _, _, hb, _, _ => by simp [nestP] at hb
  | .tuple _, .dict _, _, _, _, hb, _, _ => by simp [nestP] at hb
theorem toksL_inj : ∀ (a b : List PyData) (r r' : List (Int ⊕ List Nat)), nestPL a = true → nestPL b = true → PySem.W.alikeAll a b = true → PySem.W.keyToksAll a ++ r = PySem.W.keyToksAll b ++ r' → a = b ∧ r = r'
  | [], [], r, r', _, _, _, h => by
    simp only [PySem.W.keyToksAll, List.cons_append, List.nil_append, List.cons.injEq, true_and] at h
    exact ⟨rfl, h⟩
  | [], y :: ys, r, r', _, _, _, h => by
    simp [PySem.W.keyToksAll] at h
  | x :: xs, [], r, r', _, _, _, h => by
    simp [PySem.W.keyToksAll] at h
  | x :: xs, y :: ys, r, r', ha, hb, k, h => by
    simp only [PySem.W.keyToksAll, List.cons_append, List.cons.injEq, true_and, List.append_assoc] at h
    simp only [nestPL, Bool.and_eq_true] at ha hb
    simp only [PySem.W.alikeAll, Bool.and_eq_true] at k
    obtain ⟨e1, e2⟩ := toks_inj x y _ _ ha.1 hb.1 k.1 h
    obtain ⟨e3, e4⟩ := toksL_inj xs ys r r' ha.2 hb.2 k.2 e2
    exact ⟨by rw [e1, e3], e4⟩
end
theorem leD_anti {a b : D} (ha : nestP (py a) = true) (hb : nestP (py b) = true) (hk : alikeD a b = true) (h1 : leD a b = true) (h2 : leD b a = true) : py a = py b := by
  unfold leD PySem.W.dataLt at h1 h2
  simp only [Bool.not_eq_true'] at h1 h2
  have e := lex_total _ _ h2 h1
  exact (toks_inj (py a) (py b) [] [] ha hb hk (by rw [List.append_nil, List.append_nil]; exact e)).1
def leI (a b : List Int) : Bool := leD (tupI a) (tupI b)
theorem nest_tupI (a : List Int) : nestP (py (tupI a)) = true := by
  show nestP (.tuple (pyL (a.map D.int))) = true
  unfold nestP
  induction a with
  | nil => rfl
  | cons i a ih => rw [List.map_cons, pyL, nestPL, ih]; rfl
theorem pyL_int_inj : ∀ a b : List Int, pyL (a.map D.int) = pyL (b.map D.int) → a = b
  | [], [], _ => rfl
  | [], _ :: _, h => by simp [pyL] at h
  | _ :: _, [], h => by simp [pyL] at h
  | i :: a, j :: b, h => by
    simp only [List.map_cons, pyL, py, List.cons.injEq, PyData.int.injEq] at h
    rw [h.1, pyL_int_inj a b h.2]
theorem leI_anti {a b : List Int} (h1 : leI a b = true) (h2 : leI b a = true) : a = b := by
  have ok := tupIs_ok [a, b]
  have al : alikeD (tupI a) (tupI b) = true := by
    unfold sortOk at ok
    rw [Bool.and_eq_true, Bool.and_eq_true] at ok
    exact List.all_eq_true.mp (List.all_eq_true.mp ok.1.2 (tupI a) (by simp)) (tupI b) (by simp)
  have := leD_anti (nest_tupI a) (nest_tupI b) al h1 h2
  simp only [tupI, py, PyData.tuple.injEq] at this
  exact pyL_int_inj a b this
theorem leI_trans (a b c : List Int) (h1 : leI a b = true) (h2 : leI b c = true) : leI a c = true := leD_trans _ _ _ h1 h2
theorem leI_total (a b : List Int) : (leI a b || leI b a) = true := leD_total _ _
def dedI : List (List Int) → List (List Int)
  | [] => []
  | x :: r => if x ∈ r then dedI r else x :: dedI r
theorem dedI_mem : ∀ (l : List (List Int)) (x : List Int), x ∈ dedI l ↔ x ∈ l
  | [], x => by simp [dedI]
  | y :: r, x => by
    unfold dedI
    by_cases h : y ∈ r
    · rw [if_pos h, dedI_mem r x, List.mem_cons]
      constructor
      · exact .inr
      · rintro (rfl | k)
        · exact h
        · exact k
    · rw [if_neg h, List.mem_cons, List.mem_cons, dedI_mem r x]
theorem dedI_nodup : ∀ l : List (List Int), (dedI l).Nodup
  | [] => List.nodup_nil
  | y :: r => by
    unfold dedI
    by_cases h : y ∈ r
    · rw [if_pos h]; exact dedI_nodup r
    · rw [if_neg h]
      exact List.nodup_cons.mpr ⟨fun k => h ((dedI_mem r y).mp k), dedI_nodup r⟩
def sortSet (l : List (List Int)) : List (List Int) := (dedI l).mergeSort leI
theorem sortSet_of {l r : List (List Int)} (nd : r.Nodup) (hm : ∀ x, x ∈ r ↔ x ∈ l) (hp : r.Pairwise fun a b => leI a b = true) : r = sortSet l := by
  refine List.Perm.eq_of_pairwise (le := fun a b => leI a b = true) (fun a b _ _ h1 h2 => leI_anti h1 h2) hp (List.pairwise_mergeSort leI_trans leI_total _) ?_
  refine List.Perm.trans ?_ (List.mergeSort_perm _ _).symm
  exact (List.perm_ext_iff_of_nodup nd (dedI_nodup l)).mpr fun x => by rw [hm, dedI_mem]
def intTs : List D → Option (List (List Int))
  | [] => some []
  | .tup xs :: r => match intsOf xs, intTs r with | some ns, some l => some (ns :: l) | _, _ => none
  | _ :: _ => none
theorem intsOf_map : ∀ {xs : List D} {ns : List Int}, intsOf xs = some ns → xs = ns.map .int
  | [], ns, h => by simp [intsOf] at h; rw [h]; rfl
  | .int i :: r, ns, h => by
    unfold intsOf at h
    cases e : intsOf r with
    | none => rw [e] at h; simp at h
    | some l =>
      rw [e] at h
      simp at h
      rw [← h, List.map_cons, ← intsOf_map e]
  | .non :: _, _, h => by simp [intsOf] at h
  | .bl _ :: _, _, h => by simp [intsOf] at h
  | .str _ :: _, _, h => by simp [intsOf] at h
  | .tup _ :: _, _, h => by simp [intsOf] at h
  | .lst _ :: _, _, h => by simp [intsOf] at h
  | .dct _ _ :: _, _, h => by simp [intsOf] at h
  | .dtt _ _ :: _, _, h => by simp [intsOf] at h
  | .obj _ _ _ :: _, _, h => by simp [intsOf] at h
  | .glo _ :: _, _, h => by simp [intsOf] at h
  | .pool :: _, _, h => by simp [intsOf] at h
  | .scr _ :: _, _, h => by simp [intsOf] at h
  | .rng _ _ :: _, _, h => by simp [intsOf] at h
theorem intsOf_intMap : ∀ l : List Int, intsOf (l.map D.int) = some l
  | [] => rfl
  | a :: l => by rw [List.map_cons, intsOf, intsOf_intMap l]; rfl
theorem intTs_map : ∀ l : List (List Int), intTs (l.map tupI) = some l
  | [] => rfl
  | a :: l => by rw [List.map_cons]; unfold tupI intTs; rw [intsOf_intMap, show intTs (l.map fun ns => D.tup (ns.map .int)) = some l from intTs_map l]
def sortSetW (k : Kd) : D → W D := fun x Q _ => match x with | .lst xs => (match intTs xs with | some l => upL k xs ∧ l.length < 64 ∧ Q (.lst ((sortSet l).map tupI)) | none => False) | _ => False
theorem ks_of {G : Gx} {F H : Hp} (fh : Ex F H) : ∀ {ds : List D} {vs : List V} {l : List (List Int)}, IsL G F ds vs → intTs ds = some l → ∃ ks : List (Addr × List Int), vs = ks.map (fun p => V.ref p.1) ∧ ks.map (·.2) = l ∧ ∀ p ∈ ks, F p.1 = some (.tup (p.2.map V.int))
  | [], vs, l, h, e => by
    rw [show vs = [] from h]
    simp [intTs] at e
    exact ⟨[], rfl, by rw [e]; rfl, by simp⟩
  | .tup xs :: r, _, l, h, e => by
    obtain ⟨v, vr, rfl, h1, h2⟩ := h
    unfold intTs at e
    cases e1 : intsOf xs with
    | none => rw [e1] at e; simp at e
    | some ns =>
      cases e2 : intTs r with
      | none => rw [e1, e2] at e; simp at e
      | some l2 =>
        rw [e1, e2] at e
        simp at e
        obtain ⟨ks, k1, k2, k3⟩ := ks_of fh h2 e2
        obtain ⟨a, us, rfl, a1, a2⟩ := h1
        refine ⟨(a, ns) :: ks, by rw [k1]; rfl, by rw [List.map_cons, k2, ← e], fun p hp => ?_⟩
        rcases List.mem_cons.mp hp with rfl | hp
        · show F a = _
          rw [show F a = some (.tup us) from a1, intsOf_v a2 e1]
        · exact k3 p hp
  | .non :: _, _, _, _, h => by simp [intTs] at h
  | .bl _ :: _, _, _, _, h => by simp [intTs] at h
  | .str _ :: _, _, _, _, h => by simp [intTs] at h
  | .int _ :: _, _, _, _, h => by simp [intTs] at h
  | .lst _ :: _, _, _, _, h => by simp [intTs] at h
  | .dct _ _ :: _, _, _, _, h => by simp [intTs] at h
  | .dtt _ _ :: _, _, _, _, h => by simp [intTs] at h
  | .obj _ _ _ :: _, _, _, _, h => by simp [intTs] at h
  | .glo _ :: _, _, _, _, h => by simp [intTs] at h
  | .pool :: _, _, _, _, h => by simp [intTs] at h
  | .scr _ :: _, _, _, _, h => by simp [intTs] at h
  | .rng _ _ :: _, _, _, _, h => by simp [intTs] at h
theorem tupIs_is {G : Gx} {H : Hp} : ∀ {L : List (Addr × List Int)}, (∀ p ∈ L, H p.1 = some (.tup (p.2.map V.int))) → IsL G H ((L.map (·.2)).map tupI) (L.map fun q => V.ref q.1)
  | [], _ => rfl
  | p :: L, h => ⟨_, _, rfl, tupI_is (h p (by simp)), tupIs_is fun q hq => h q (by simp [hq])⟩
section
variable {X : Cx} {C : Cf} {M : List Md} {Wx : WX} {pos p p2 q : Pos} {G : Gx}
theorem uns_sortSet {P : Program} {w : World} {k1 : Kd} : UnS G k1 (.n 1) (fun v H Q => rSetOfT G.K P w [v] H (fun u H1 => rSortSet P w [u] H1 Q)) (sortSetW k1) := by
  intro F H fh po x v hx Qd Ed Q hw hq
  cases x <;> try exact hw.elim
  rename_i ds
  unfold sortSetW at hw
  simp only at hw
  cases e : intTs ds with
  | none => rw [e] at hw; exact hw.elim
  | some l =>
    rw [e] at hw
    obtain ⟨hup, hlen, hw⟩ := hw
    obtain ⟨a, vs, F', rfl, h1, g, h2⟩ := hx.upL fh po hup
    have fh' : Ex F' H := g.fh.trans hid_ex
    obtain ⟨ks, rfl, k2, k3⟩ := ks_of fh' h2 e
    refine ⟨a, ks, rfl, .inl (.inl h1), fun p hp => .inl (.inl (fh' _ _ (k3 p hp))), by rw [← k2, List.length_map] at hlen; exact hlen, fun b L hb sub all => ⟨b, L, rfl, upd_same, fun p hp => ?_, fun L1 p pm nd hp => ?_⟩⟩
    · have := fh' _ _ (k3 p (sub p hp))
      rw [upd_ne (fun z => by rw [z, hb] at this; cases this)]
      exact this
    · have fb := g.pool
      have g2 : Gr G.pl F H F' (upd H b (SetTO P w b L)) := g.trans (Gr.laid g.fh g.pool hb)
      have i3 : IsL G F' (((L1.mergeSort leQ).map (·.2)).map tupI) ((L1.mergeSort leQ).map fun q => V.ref q.1) := tupIs_is fun p hp => k3 p (sub p (pm.mem_iff.mp ((List.mergeSort_perm _ _).mem_iff.mp hp)))
      have es : (L1.mergeSort leQ).map (·.2) = sortSet l := by
        refine sortSet_of ?_ (fun x => ?_) ?_
        · exact (((List.mergeSort_perm L1 leQ).map (·.2)).nodup_iff).mpr nd
        · rw [← k2]
          constructor
          · intro hx
            obtain ⟨p, hp, rfl⟩ := List.mem_map.mp hx
            exact List.mem_map_of_mem (sub p (pm.mem_iff.mp ((List.mergeSort_perm _ _).mem_iff.mp hp)))
          · intro hx
            obtain ⟨p, hp, rfl⟩ := List.mem_map.mp hx
            obtain ⟨r, hr, er⟩ := List.mem_map.mp (all p hp)
            exact List.mem_map.mpr ⟨r, (List.mergeSort_perm _ _).mem_iff.mpr (pm.mem_iff.mpr hr), er⟩
        · rw [List.pairwise_map]
          exact List.pairwise_mergeSort (le := leQ) (fun a b c => leI_trans a.2 b.2 c.2) (fun a b => leI_total a.2 b.2) L1
      rw [es] at i3
      exact fin_lst g2.fh g2.pool (fun d z F2 H2 g3 k q => hq d z F2 H2 (g2.trans g3) (k.gr fun x hx => g2.back g2.pool x hx) q) i3 hw hp
theorem de_sortSet {e : Expr} {k1 : Kd} {we : Env → W D} (hc : X.calm = true) (hu : X.A.units + 64 < cLine) (hg : Gl X "sorted") (hm : X.mg "sorted" = none) (hg2 : Gl X "set") (hm2 : X.mg "set" = none) (he : DE X C M Wx k1 e we)
    (h1 : k1.isN = false := by rfl) (hst : starEach [e] X.env = (false, eval e X.env) :: starEach [] X.env := by rfl)
    (hst2 : starEach [.Call (.Name "set" p2) [e] [] q] X.env = (false, eval (.Call (.Name "set" p2) [e] [] q) X.env) :: starEach [] X.env := by rfl) : DE X C M Wx (.n 1) (.Call (.Name "sorted" p) [.Call (.Name "set" p2) [e] [] q] [] pos) (unW (sortSetW k1) we) := by
  obtain ⟨te, pe, se⟩ := he.ex
  exact ⟨_, pe_callB (cr_sortSet hc (by omega)) hg hm (by decide +kernel) (pa_cons (pe_callTy (cr_setOfT hc hu) hg2 hm2 (by decide +kernel) (pa_cons pe pa_nil hst) (by decide) (by decide) hst rfl) pa_nil hst2) (by decide) (by decide) hst2 rfl, se_cb1 (r := fun vs H Q => rSetOfT X.K X.prog X.w vs H (fun u H1 => rSortSet X.prog X.w [u] H1 Q)) h1 uns_sortSet rfl se⟩
end
section
variable {Q : D → Prop} {E : Xn → Prop}
theorem o_sortSet {l : List (List Int)} : sortSetW .v (.lst (l.map tupI)) Q E = (l.length < 64 ∧ Q (.lst ((sortSet l).map tupI))) := by
  unfold sortSetW
  simp only [intTs_map]
  simp
end
/-! to be run -/
def insI (x : List Int) : List (List Int) → List (List Int)
  | [] => [x]
  | y :: ys => if leI x y = true then x :: y :: ys else y :: insI x ys
def isortI : List (List Int) → List (List Int)
  | [] => []
  | x :: xs => insI x (isortI xs)
theorem insI_at {x : List Int} {l2 : List (List Int)} (h2 : ∀ b ∈ l2, leI x b = true) : ∀ l1 : List (List Int), (∀ b ∈ l1, (!leI x b) = true) → insI x (l1 ++ l2) = l1 ++ x :: l2
  | [], _ => by
    cases l2 with
    | nil => rfl
    | cons y ys => show insI x (y :: ys) = _; unfold insI; rw [if_pos (h2 y (by simp))]; rfl
  | b :: l1, h => by
    have hb := h b (by simp)
    show insI x (b :: (l1 ++ l2)) = _
    unfold insI
    rw [if_neg (by simpa using hb), insI_at h2 l1 fun c hc => h c (by simp [hc])]
    rfl
theorem sortI_run : ∀ xs : List (List Int), xs.mergeSort leI = isortI xs
  | [] => by unfold isortI; exact List.mergeSort_nil
  | x :: xs => by
    unfold isortI
    rw [← sortI_run xs]
    obtain ⟨l1, l2, e1, e2, h1⟩ := List.mergeSort_cons (le := leI) leI_trans leI_total x xs
    have hs := List.pairwise_mergeSort (le := leI) leI_trans leI_total (x :: xs)
    rw [e1, e2, insI_at ?_ l1 h1]
    intro b hb
    rw [e1] at hs
    have := (List.pairwise_append.mp hs).2.1
    exact (List.pairwise_cons.mp this).1 b hb
def sortSetX (k : Kd) : D → Res D
  | .lst xs => (Res.opt (intTs xs)).bind fun l => Res.iff ((vB k || imL xs) && decide (l.length < 64)) (.ok (.lst ((isortI (dedI l)).map tupI)))
  | _ => .bad
instance {k : Kd} : Run1 (sortSetW k) := ⟨sortSetX k, fun x Q E h => by
  cases x <;> try exact h.elim
  unfold sortSetX at h
  rw [post_bind] at h
  obtain ⟨l, e, h⟩ := post_opt h
  obtain ⟨h1, h2⟩ := post_iff h
  rw [Bool.and_eq_true] at h1
  unfold sortSetW
  simp only [e]
  refine ⟨vB_ok h1.1, of_decide_eq_true h1.2, ?_⟩
  unfold sortSet
  rw [sortI_run]
  exact h2⟩
end DL

namespace DL
open PySem PySem.Spec PyProof.Rows L2 NdefX

/-! ### an own exception whose __init__ says super().__init__(text) and keeps one thing -/
abbrev supNF (qual : Str) (params : Arguments) (body : List Stmt) (scope : Scope) (cc cda : Addr) : NF := ⟨"__init__", qual, params, body, scope, [("__class__", cc)], cda⟩
/-- what the written part says of such a class -/
structure SupOk (P : Program) (K : PySem.W.Frag) (C fI cc cda : Addr) (fd : FuncData) (qual : Str) (params : Arguments) (body : List Stmt) (scope : Scope) : Prop where
  ox : OexC K C
  fi : PySem.W.findIn K (.ref C) "__init__" = some (some (.ref fI))
  tI : PySem.W.typeIn K (.ref fI) = some (.type "function")
  lk : ∃ (oc : Value) (od : Option Addr) (doc pm ctv : Value) (osl : Array (Option Value)), K.lookup fI = some ⟨oc, od, .func fd, osl⟩ ∧ fd = (supNF qual params body scope cc cda).fd doc pm ctv
  code : PySem.W.codeIn K (.ref cda) qual = true
  file : ∃ (ccl : Value) (cdd : Option Addr) (vs : Array Value) (ccs : Array (Option Value)) (file : Str) (tf : Tok), K.lookup cda = some ⟨ccl, cdd, .fields vs, ccs⟩ ∧ vs[2]? = some (.str file tf) ∧ ((P.main.file : Str) == file) = true
  cell : ∃ (cl : Value) (cld : Option Addr) (csl : Array (Option Value)), K.lookup cc = some ⟨cl, cld, .cell (some (.ref C)), csl⟩
  cls : ∃ cd, PySem.W.clsIn K C = some cd
  self : PySem.W.mroIn K C (.ref C) = some true
  sup : PySem.W.ks_superIn K C C "__init__" = some (some (.builtin "ValueError.__init__"))
  opq : PySem.W.nsIn K cStatics "thirdparty.any" = some none
  sub : PySem.W.subIn K (.ref C) (.type "ValueError") = some true
  top : (P.main.scope.names.lookup ("super" : Str)).isSome = false

section
variable {prog : Program} {w : World} {A : Around} {E : Value → Shared → Prop} {h : Heap} {g : Array GenState} {d : Drawn} {t : Nat} {os : OsState}
/-- the bound __init__ called -/
theorem call_mw {nm q : Str} {C N u e t0 : Addr} {bs bm : List Value} {hdct : Bool} {sn : List Str} {sub : List Value} {ab : Bool} {col : Option Bool} {dd : Option Addr} {k0 k1 k2 k3 k5 : Option Value} {rest : List Value} {Q : Value → Shared → Prop}
    (hC : h.get? C = some (excClassObj nm q C N bs bm hdct sn sub ab col dd k0 k1 k2 k3 k5 "ValueError.__new__")) (he : h.get? e = some (PySem.W.excObj C t0 none .none)) (hu : h.get? u = some (PySem.W.kxs_mw "ValueError.__init__" e)) (hrest : rest.length ≤ sizeLine)
    (hq : ∀ h', (∀ b o, b ≠ e → h.get? b = some o → h'.get? b = some o) → h'.get? e = some (PySem.W.excObj C h.objs.size none .none) → Q .none ⟨h', g, d, t, os⟩) :
    wpAny (model prog w) A (call (.ref u) rest) Q E ⟨h, g, d, t, os⟩ := by
  refine wpAny_call (codeAny_of_tree ?_)
  show wpAny _ A.in1 (callAny (.ref u) ⟨rest, []⟩) _ _ _
  simp only [callAny]
  refine wpAny_bind (wpAny_load hu ?_)
  simp only [PySem.W.kxs_mw, show (Value.type "method-wrapper" == Value.type "method" || Value.type "method-wrapper" == Value.type "builtin_function_or_method" || Value.type "method-wrapper" == Value.type "method-wrapper") = true by decide, if_true]
  refine PySem.W.KFB.if_so (by decide) ?_
  refine wpAny_bind (PySem.W.check_bound_init PySem.F.excBase_ValueError.toExcCallFacts hC he rfl ?_)
  refine wpAny_bind (wpAny_pure (wpAny_pure ?_))
  refine ⟨plainId_quiet PySem.F.excBase_ValueError.init.plain _, codeAny_builtin PySem.F.excBase_ValueError.initEntry ?_⟩
  exact PySem.W.exc_init_tree (cls := .ref C) (t0 := t0) (dv := none) (c2 := .none) (c3 := .none) (b4 := .bool false) he hrest fun h' k1 k2 _ => hq h' k1 k2
end
def spSup (C : Addr) (f : Str) : Sp := fun vs H Q _ => ∃ (a : Addr) (v : V), vs = [.ref a, v] ∧ H a = some (exo a C none) ∧ ∀ dx, H dx = none → dx ≠ a → Q .non (upd (upd H dx (exd dx [(f, v)])) a (exo a C (some dx)))
abbrev supBody (txt : Str) (f x : Str) (j : Nat) (p0 p1 p2 p3 p4 p5 p6 p7 p8 p9 : Pos) : List Stmt :=
  [.Expr (.Call (.Attribute (.Call (.Name "super" p0) [] [] p1) "__init__" p2) [.Constant (.str txt) j p3] [] p4) p5, .Assign [.Attribute (.Name "self" p6) f p7] (.Name x p8) p9]
theorem sup_fn {P : Program} {w : World} {K : PySem.W.Frag} {mg : Str → Option Value} {base : Heap} {CX : CXT} {k : Nat} {C fI cc cda : Addr} {fd : FuncData} {qual : Str} {params : Arguments} {scope : Scope} {txt f x : Str} {j : Nat} {p0 p1 p2 p3 p4 p5 p6 p7 p8 p9 : Pos}
    (S : SupOk P K C fI cc cda fd qual params (supBody txt f x j p0 p1 p2 p3 p4 p5 p6 p7 p8 p9) scope) (hmg : mg "super" = none)
    (N : NScope ["self", x, "__class__"] ["self", x] ["__class__"] scope) (hks : scope.names.lookup ("super" : Str) = some .globalImplicit) (hxd : (x == ("__debug__" : Str)) = false) (hxc : (x == ("__classdict__" : Str)) = false) (hp : (params.posonlyargs ++ params.args).head?.map (·.arg) = some ("self" : Str))
    (hno : PySem.W.findIn K (.ref C) f = some none) (hsw : ∀ env, swapsWith (.Call (.Attribute (.Call (.Name "super" p0) [] [] p1) "__init__" p2) [.Constant (.str txt) j p3] [] p4) none p5.line env = pure false) {pl : PySem.Env → Sem Bool} (he : ∀ env, eval (.Call (.Attribute (.Call (.Name "super" p0) [] [] p1) "__init__" p2) [.Constant (.str txt) j p3] [] p4) env = (do
      let ov ← attributeBase (.Call (.Name "super" p0) [] [] p1) "__init__" env (eval (.Call (.Name "super" p0) [] [] p1) env)
      standAt p2.atName
      let (f, first) ← holding [ov] (getMethod ov "__init__" (pl env))
      callWith p4 f first (backTo p4 (starEach [.Constant (.str txt) j p3] env)) [])) : FnOk P w K mg base CX (k + 1) fI fd ["self", x] (spSup C f) := by
  obtain ⟨oc, od, doc, pm, ctv, osl, lk, rfl⟩ := S.lk
  refine ⟨fun vs H Q E h => ?_, fun A outer s H args us vs Q E hr e0 hb r hsp => ?_⟩
  · obtain ⟨a, v, rfl, _⟩ := h; rfl
  obtain ⟨a, v, rfl, ea, hq⟩ := hsp
  have KX : K.In s.heap := e0.mod.kin.keeps fun b o e => (e0.bs b o e).1
  have ho := KX _ _ lk
  have lim : s.heap.NoLimit := e0.mod.nolimit.keeps fun b o e => (e0.bs b o e).1
  obtain ⟨cl, cld, csl, hcell⟩ := S.cell
  have hl : us.length = 2 := by have := r.length; simpa using this.symm
  refine PySem.ks_codeAny_call_defAt (fd := (supNF qual params _ scope cc cda).fd doc pm ctv) hr.depth ho rfl lim (PySem.W.codeRec_of KX S.code) rfl hb N.nocell (fun ⟨n, _⟩ hy => N.par n (List.of_mem_zip hy).1) (fun h₁ hns kp => ?_) N.co N.gen N.kind
  have hcb := e0.bs _ _ (e0.mod.kin _ _ hcell)
  have hcc : s.heap.get? cc = some ⟨cl, cld, .cell (some (.ref C)), csl⟩ := hcb.1
  have CA : CellsAt (supNF qual params (supBody txt f x j p0 p1 p2 p3 p4 p5 p6 p7 p8 p9) scope cc cda).cl ["__class__"] [some (V.ref C)] s.heap H := by
    refine ⟨rfl, fun y c hy => ?_, fun y z c hy hz => ?_, fun i y hi => ?_⟩
    · have e : c = cc := by
        by_cases hc : y = "__class__"
        · subst hc
          have : (List.lookup ("__class__" : Str) [(("__class__" : Str), cc)]) = some cc := by simp [List.lookup]
          exact Option.some.inj (hy.symm.trans this)
        · have : (List.lookup y [(("__class__" : Str), cc)]) = none := by
            unfold List.lookup
            have : (y == ("__class__" : Str)) = false := by simpa using hc
            rw [this]; rfl
          rw [show List.lookup y [(("__class__" : Str), cc)] = some c from hy] at this
          cases this
      subst e
      exact ⟨hcb.2, _, _, hcc, rfl⟩
    · have key : ∀ y, List.lookup y [(("__class__" : Str), cc)] = some c → y = "__class__" := fun y hy => by
        by_cases hc : y = "__class__"
        · exact hc
        · have : (y == ("__class__" : Str)) = false := by simpa using hc
          unfold List.lookup at hy
          rw [this] at hy
          cases hy
      rw [key y hy, key z hz]
    · match i, hi with
      | 0, hi =>
        cases hi
        refine ⟨cc, by simp [List.lookup], fun v hv => ?_⟩
        cases hv
        exact ⟨.ref C, rfl, _, hcc, rfl⟩
  have I0 := inv_startN (CX := CX) (E := E) (f := fI) N hr.hd e0 (by rfl) r CA hns kp (tk := s.toks + ([("self" : Str), x].zip us).length)
  match us, r with
  | [u0, u1], .cons r0 (.cons r1 .nil) =>
  obtain rfl : u0 = Value.ref a := r0
  have hLa : s.heap.objs.size ≠ a := fun z => by
    have := e0.hok.fresh (Nat.le_refl s.heap.objs.size)
    rw [z, ea] at this; cases this
  obtain ⟨t0, hex⟩ := exo_at e0.hok ea
  have hex1 := kp _ _ hex
  have KX1 : K.In h₁ := KX.keeps kp
  obtain ⟨cd, hcd⟩ := S.cls
  obtain ⟨oD, hD1, hD2⟩ : ∃ oD, h₁.get? C = some oD ∧ oD.data = .cls cd := by
    unfold PySem.W.clsIn at hcd
    split at hcd
    · rename_i c d cd' sl ho'
      cases hcd
      exact ⟨_, KX1 _ _ ho', rfl⟩
    · cases hcd
  obtain ⟨ccl, cdd, vs, ccs, file, tf, hcda, hvs, hfile⟩ := S.file
  have hns' : h₁.Ns s.heap.objs.size fun y => ([("self" : Str), x].zip [Value.ref a, u1]).reverse.lookup y := hns
  obtain ⟨ar, har, hself⟩ : ∃ ar, (params.posonlyargs ++ params.args).head? = some ar ∧ ar.arg = ("self" : Str) := by
    cases e : (params.posonlyargs ++ params.args).head? with
    | none => rw [e] at hp; cases hp
    | some ar => rw [e] at hp; exact ⟨ar, rfl, Option.some.inj hp⟩
  refine PySem.ks_wpAt_execs_cons (PySem.ks_wpAt_Expr_any (PySem.ks_wpAt_MethodCall ?_ (he _)) (by unfold interactive; simp [callEnv, newEnv, N.kind]) (hsw _))
  refine PySem.ks_wpAt_super_base (env := callEnv ((supNF qual params (supBody txt f x j p0 p1 p2 p3 p4 p5 p6 p7 p8 p9) scope cc cda).fd doc pm ctv) s.heap.objs.size fI) hks (N.frk "__class__" (by simp)) (by decide +kernel) rfl (kp _ _ ho) rfl har rfl (KX1 _ _ hcda) rfl hvs hfile S.top ?_
  obtain ⟨mb, hmb, hbb⟩ := e0.mod.blt
  have kb : ∀ b o, base.get? b = some o → h₁.get? b = some o := fun b o e => kp _ _ (e0.bs b o e).1
  have hb1 : mb "super" = some (.type "super") := (hbb "super" (by decide)).trans (by decide +kernel)
  refine PySem.W.ks_loadName_global N.kind hks (PySem.Calls.loadGlobal_builtin (e0.mod.glob.keeps kb) hmg (hmb.keeps kb) hb1 ⟨rfl, ?_⟩)
  refine wpAny_loadName_free N.kind (N.frk "__class__" (by simp)) rfl ⟨_, kp _ _ hcc, rfl⟩ ?_
  rw [hself]
  have hv : ([("self" : Str), x].zip [Value.ref a, u1]).reverse.lookup ("self" : Str) = some (.ref a) := zip_look (i := 0) (by have := N.nd; simp only [List.nodup_cons, List.mem_cons, List.not_mem_nil, or_false, not_or] at this ⊢; exact ⟨this.1.1, by simp⟩) rfl rfl
  refine wpAny_loadName_local N.kind (N.par "self" (by simp)) hns' hv ?_
  refine PySem.ks_wpAny_isType_cls hD1 hD2 ⟨rfl, ?_⟩
  refine PySem.ks_wpAny_call_super hD1 hD2 hex1 rfl (fun c e => by cases e) (PySem.W.looks_mroIn KX1 S.self) (fun h2 hso up2 => ?_)
  have KX2 : K.In h2 := KX1.keeps up2
  have hex2 := up2 _ _ hex1
  have Ia : PySem.W.InstAt h2 a ({ cls := .ref C, dict := none, data := .fields #[.ref t0, .none, .none, .none, .bool false, .none] } : Obj) C none := ⟨hex2, rfl, rfl, trivial⟩
  have hsup : PySem.W.alongIn K "__init__" ((cd.mro.dropWhile (· != .ref C)).drop 1) = some (some (.builtin "ValueError.__init__")) := by
    have := S.sup
    unfold PySem.W.ks_superIn at this
    rw [hcd] at this
    exact this
  refine PySem.W.kxs_getMethod PySem.W.kxs_ValueError hso (PySem.W.looks_opaque KX2 S.opq) (l₀ := cd.mro) (fun A Q E s k q => wpAny_bind ((PySem.W.looks_clsIn KX2 hcd) A _ E s k (wpAny_pure q))) rfl KX2 hsup (Ia.type.andThen (PySem.W.looks_subIn KX2 S.sub)) (PySem.W.ks_ne KX2 Ia hcd) (by decide +kernel) ?_
  refine PySem.W.kxs_callWith (i := "ValueError.__init__") (x := a) rfl (PySem.Calls.evalArgs_plain (PySem.Calls.spliced_cons (PySem.Calls.Constant_str (k := j) (pos := p3) (PySem.Calls.spliced_nil ⟨Heap.get?_push_size _ rfl, ?_⟩))))
  have up3 : ∀ b o, h2.get? b = some o → (h2.push (PySem.W.kxs_mw "ValueError.__init__" a)).get? b = some o := fun b o e => Heap.get?_push_of_some _ e
  obtain ⟨nm, q, N', bs, bm, sn, sub, ab, col, dd, k0, k1, k2, k3, k5, hC, hbm⟩ := S.ox.cls
  refine call_mw ((KX2.keeps up3) _ _ hC) (up3 _ _ hex2) (Heap.get?_push_size _ rfl) (by show 1 ≤ sizeLine; decide) fun h4 k4 e4 => ?_
  refine wpAt_of_wpAny ?_
  have I2 := I0.kept (t' := s.toks + ([("self" : Str), x].zip [Value.ref a, u1]).length + 1 + 1) (h' := h2.push (PySem.W.kxs_mw "ValueError.__init__" a)) (fun b o e => up3 _ _ (up2 _ _ e))
  have J := I2.write (t' := s.toks + ([("self" : Str), x].zip [Value.ref a, u1]).length + 1 + 1) (x := a) (e := a) (o := exo a C none) (by rw [ea]; exact True.intro) (.inl rfl) k4 ⟨_, e4⟩ (exo_ok e4)
  have eu : upd H a (exo a C none) = H := by
    funext b
    by_cases hb : b = a
    · rw [hb, upd_same, ea]
    · rw [upd_ne hb]
  rw [eu] at J
  have ht := pss_one (ps_ost (X := ncx CX P w K mg base [("self" : Str), x, "__class__"] (supNF qual params (supBody txt f x j p0 p1 p2 p3 p4 p5 p6 p7 p8 p9) scope cc cda) fI A outer s H E) (f := f) (p' := p7) (pos := p9) (pe_var (i := 0) (x := ("self" : Str)) (pos := p6) rfl (.inl (N.par "self" (by simp)))) (pe_var (i := 1) (x := x) (pos := p8) rfl (.inl (N.par x (by simp))) hxd hxc))
  refine wpAny_mono (ht.run [] _ _ H { nx := fun _ H' => Q .non H', rt := Q } J ⟨v, rfl, .ref a, rfl, a, C, rfl, S.ox, hno, .inl ⟨ea, hq⟩⟩) (fun fl s' hs => ?_) fun e s' hs => hs
  have fin : ∀ {σ' : L2.St} {H' : Hp} {v : V} {u : Value}, Inv (ncx CX P w K mg base [("self" : Str), x, "__class__"] (supNF qual params (supBody txt f x j p0 p1 p2 p3 p4 p5 p6 p7 p8 p9) scope cc cda) fI A outer s H E) [] σ' H' s' → L2.RelV v u → Q v H' → CE outer P w H s Q u s' :=
    fun {σ' H' v u} J rv q => ⟨v, H', J.os, J.bare, J.base, J.hok, rv, q⟩
  cases fl with
  | ret u =>
    obtain ⟨v, σ', H', J, rv, q⟩ := hs
    exact fin J rv q
  | next =>
    obtain ⟨σ', H', J, q⟩ := hs
    exact fin (v := V.non) (u := Value.none) J rfl q
  | brk =>
    obtain ⟨_, _, _, q⟩ := hs
    exact False.elim q
  | cont =>
    obtain ⟨_, _, _, q⟩ := hs
    exact False.elim q
end DL

namespace DL
open PySem PySem.Spec PyProof.Rows L2 NdefX

/-! ### raise C(e), C's __init__ keeping e in the field f -/
structure ExcX (P : Program) (w : World) (K : PySem.W.Frag) (mg : Str → Option Value) (base : Heap) (c f : Str) : Prop where
  ex : ∃ (Cl fI : Addr) (fd : FuncData) (ps : List Str), mg c = some (.ref Cl) ∧ OexC K Cl ∧ PySem.W.findIn K (.ref Cl) "__init__" = some (some (.ref fI)) ∧ PySem.W.typeIn K (.ref fI) = some (.type "function") ∧ Binds K fd ps [] ∧
    FnOk P w K mg base (L2.CX P w) 1 fI fd ps (spSup Cl f)
def raise1W (c f : Str) (we : Env → W D) : Env → W Fl := fun ρ _ E => we ρ (fun d => E ⟨c, [f], [d]⟩) E
section
variable {X : Cx} {C : Cf} {Ml M M1 M' : List Md} {rk : Kd} {Wx : WX} {pos p p2 : Pos} {G : Gx}
theorem ds_raise1 {x f : Str} {e : Expr} {we : Env → W D} (hx : ExcX X.prog X.w X.K X.mg X.base x f) (hr : Room 2 X.A) (hg : Gl X x) (hc : X.calm = true) (tk : Takes X Wx) (he : DE X C M Wx .v e we) (hdb : (x == ("__debug__" : Str)) = false := by decide)
    (hst : starEach [e] X.env = (false, eval e X.env) :: starEach [] X.env := by rfl) (hpl : (backTo p2 (starEach [] X.env)).any (·.1) = false := by rfl) :
    DS X C Ml rk Wx M M' (.Raise (some (.Call (.Name x p) [e] [] p2)) none pos) (raise1W x f we) := by
  obtain ⟨Cl, fI, fd, ps, m1, ox, hfi, hty, hb, Fn⟩ := hx.ex
  obtain ⟨te, pe, se⟩ := he.ex
  refine ⟨_, ps_raise hc tk (pmk_oex ox hfi hty Fn hr hb .nil (passes_call tk fun _ _ _ _ h => h.elim) hg m1 (pa_cons pe pa_nil hst) hdb hst hpl), fun F H σ ρ s Qd Ed D_ hw _ _ _ _ hxx => ?_⟩
  refine se F H σ ρ s _ Ed _ hw (fun d v F1 H1 g1 i1 hw2 => ?_) fun x cls dd F' H' g i q => hxx x cls dd σ F' H' g.ff (s.base.gr g) i q
  refine ⟨by show 1 ≤ 1000; decide, fun a ha => ⟨a, v, rfl, upd_same, fun dx hdx hne => ⟨rfl, dx, [(f, v)], upd_same, ?_, ?_, ?_⟩⟩⟩
  · rw [upd_ne hne, upd_same]
  · rw [upd_ne hne] at hdx; exact hdx
  · have hd1 : H1 dx = none := by rw [upd_ne hne] at hdx; exact hdx
    have eh : upd (del (upd (upd (upd H1 a (exo a Cl none)) dx (exd dx [(f, v)])) a (exo a Cl (some dx))) a) dx (.xd [(f, v)]) = upd H1 dx (.xd [(f, v)]) := by
      funext b
      by_cases h1 : b = dx
      · rw [h1, upd_same, upd_same]
      · rw [upd_ne h1, upd_ne h1]
        by_cases h2 : b = a
        · rw [h2, del_same, ha]
        · rw [del_ne h2, upd_ne h2, upd_ne h1, upd_ne h2]
    rw [eh]
    have s1 := s.gr g1
    have gL := Gr.laid (o := .xd [(f, v)]) s1.base.fh s1.base.pool hd1
    exact hxx ⟨x, [f], [d]⟩ (.ref Cl) (some dx) σ F1 _ g1.ff (s.base.gr (g1.trans gL)) ⟨Cl, rfl, m1, .inr ⟨dx, [(f, v)], rfl, upd_same, rfl, v, [], rfl, i1, rfl⟩⟩ hw2
end
end DL

namespace DL
open PySem PySem.Spec PyProof.Rows L2

/-! ### several except clauses, each with a name or none -/
/-- a clause: the slot of its name, its class, what its suite does -/
structure Wish where
  i : Option Nat
  c : Value
  ts : Addr → Value → Option Addr → TS
/-- behind a suite its name is gone -/
def wiped : Option Nat → L2.St → L2.St
  | none, σ => σ
  | some i, σ => σ.set i none
def named : Option Nat → Addr → L2.St → L2.St
  | none, _, σ => σ
  | some i, a, σ => σ.set i (some (.ref a))
def behind (i : Option Nat) (D : Ends) : Ends := { nx := fun σ H => D.nx (wiped i σ) H, rt := D.rt, bk := fun σ H => D.bk (wiped i σ) H, ct := fun σ H => D.ct (wiped i σ) H }
def wishes (K : PySem.W.Frag) (Wout : WX) (D : Ends) : List Wish → WX
  | [] => Wout
  | q :: r => fun cls d σ H => ∃ b, PySem.W.exmOne K cls q.c = some b ∧ (b = true → ∀ a, H a = none → q.ts a cls d (behind q.i D) (named q.i a σ) H) ∧ (b = false → wishes K Wout D r cls d σ H)
def NameAt (X : Cx) : Option Str → Option Nat → Prop
  | none, none => True
  | some n, some i => X.N.Nodup ∧ X.N[i]? = some n ∧ X.env.kindOf n = some .local
  | _, _ => False
/-- what a suite has to be -/
def SuiteOk (X : Cx) (st : List Stmt) (q : Wish) : Prop := ∀ (a : Addr) (oe : Obj) (cls : Value) (d : Option Addr) (pn : List (Addr × Obj)), Zc cls d oe → (∃ vs, oe.data = .fields vs) → PSs (X.suite a ((a, oe) :: pn)) st (q.ts a cls d)
inductive Clauses (X : Cx) : List ExceptHandler → List Wish → Prop
  | nil : Clauses X [] []
  | cons {x : Str} {n : Option Str} {q : Wish} {b : Stmt} {st : List Stmt} {np hp : Pos} {hs : List ExceptHandler} {l : List Wish} : Names X x q.c → NameAt X n q.i → SuiteOk X (b :: st) q → Clauses X hs l → Clauses X (.ExceptHandler (some (.Name x np)) n (b :: st) hp :: hs) (q :: l)
section
variable {X : Cx} {Wout : WX} {D : Ends} {pins : List (Addr × Obj)} {σ : L2.St} {H : Hp} {a : Addr} {cls : Value} {d : Option Addr} {B : Heap} {sI : Shared}
/-- an exception that lies caught in this frame -/
structure Lies (X : Cx) (pins : List (Addr × Obj)) (σ : L2.St) (H : Hp) (a : Addr) (cls : Value) (d : Option Addr) (B : Heap) (sI s : Shared) : Prop where
  inv : Inv X pins σ H sI
  below : ∀ b o, sI.heap.get? b = some o → b ∉ frs X.stack → B.get? b = some o
  up : sI.heap.UpToSlots s.heap
  fly : HandSPX.FlyingZ B (X.env :: X.outer) a (Zc cls d) s.heap
  free : H a = none
  os : s.os = sI.os
  bare : AllBare s.gens
theorem Lies.now {s : Shared} (L : Lies X pins σ H a cls d B sI s) : Inv X pins σ H s := L.inv.landed L.below L.fly.1 L.up L.os L.bare
/-- its record is neither a frame's place nor a slot's -/
theorem Lies.apart {s : Shared} (L : Lies X pins σ H a cls d B sI s) (hf : X.env.frame = some X.env.locals) {oe : Obj} {vs : Array Value} (he : s.heap.get? a = some oe) (hd : oe.data = .fields vs) : a ≠ X.env.locals ∧ a ∉ X.fs := by
  have no : a ∉ frs (X.env :: X.outer) := fun z => by
    obtain ⟨_, o, ho, hn⟩ := L.fly.2.2.1.mem z
    obtain rfl := Option.some.inj (he.symm.trans ho)
    exact hn vs hd
  constructor
  · exact fun z => no (List.mem_filterMap.mpr ⟨X.env, List.mem_cons_self, by rw [z]; exact hf⟩)
  · intro z
    obtain ⟨e, h1, h2⟩ := List.mem_filterMap.mp z
    exact no (List.mem_filterMap.mpr ⟨e, List.mem_cons_of_mem _ h1, h2⟩)
/-- no clause takes it: it flies on -/
theorem Lies.on {s : Shared} (L : Lies X pins σ H a cls d B sI s) (hs : X.stack = X.env :: X.outer) (hf : X.env.frame = some X.env.locals) (tk : Takes X Wout) (w : Wout cls d σ H) :
    wpAny (model X.prog X.w) X.A (handleBy (.ref a) X.env []) (SP X pins D) X.xe s := by
  obtain ⟨oe, vs, T, oT, ts, he, hz, hd, ht, _⟩ := L.fly.2.2.2
  have go : wpAny (model X.prog X.w) X.A (setFlight (.ref a) X.env.frame) (fun _ s' => wpAny (model X.prog X.w) X.A (throw (.ref a) : Sem Flow) (SP X pins D) X.xe s') X.xe s := by
    rw [hf]
    exact HandSPX.setFlight_upZ L.fly fun h hh hup => wpAny_throw (tk _ _ ⟨a, B, sI, pins, σ, H, cls, d, rfl, L.inv, L.below, L.up.trans hup, .inr (.inr (hs ▸ hh)), L.free, L.os, L.bare, w⟩)
  refine wpAny_handleBy_nil ?_
  unfold PySem.passOn
  refine wpAny_bind (wpAny_field he hd ht ?_)
  rw [if_neg (by simp)]
  first
    | exact wpAny_bind (wpAny_pure (wpAny_bind go))
    | exact wpAny_bind go
/-- what a suite comes to, once its name is wiped -/
theorem suite_end {i : Nat} {n : Str} {oe : Obj} {s6 : Shared} {σ6 : L2.St} {H6 : Hp} {Q : Shared → Prop} {hp : Pos} (ok : X.Ok) (hn : NameAt X (some n) (some i)) (S : Inv (X.suite a ((a, oe) :: (X.pn ++ pins))) [] σ6 H6 s6) (q : ∀ s7, Inv X pins (σ6.set i none) H6 s7 → Q s7) :
    wpAny (model X.prog X.w) X.A (do bindName X.env n .none; unbindBehindTheSuite X.env n hp) (fun _ s7 => Q s7) X.xe s6 := by
  obtain ⟨h1, h2, h3⟩ := hn
  exact gone_ok (S.unsuite ok) h1 h2 h3 q
/-- the clauses, one behind another -/
theorem Lies.tried (hs : X.stack = X.env :: X.outer) (hf : X.env.frame = some X.env.locals) (tk : Takes X Wout) {hds : List ExceptHandler} {l : List Wish} (C : Clauses X hds l) :
    ∀ {s : Shared}, Lies X pins σ H a cls d B sI s → wishes X.K Wout D l cls d σ H → wpAny (model X.prog X.w) X.A (handleBy (.ref a) X.env hds) (SP X pins D) X.xe s := by
  induction C with
  | nil => exact fun L w => L.on hs hf tk w
  | @cons x n q b st np hp hds l hc hn hsu _ ih =>
    intro s L w
    obtain ⟨t, et, yes, no⟩ := w
    have ok := L.inv.ok
    obtain ⟨oe, vs, he, hz, hd⟩ := L.fly.there
    have ap := L.apart hf he hd
    have S := L.now.suite he hd L.free ap.1 ap.2
    have look := PySem.W.exm_one (M := model X.prog X.w) L.now.kIn (fun A Q E s' k q => wpAny_typeOf_ref (k _ _ he) (by rw [hz.1]; exact q)) et
    refine wpAny_handleBy_cons (codeAny_handlers_test ?_) (by intro z; cases z)
    have name : ∀ {Q E : Value → Shared → Prop}, Q q.c s → wpAny (model X.prog X.w) (X.A.mark (some (.ref a))) (eval (.Name x np) X.env) Q E s := fun {Q E} z => by
      rcases hc with ⟨hg, hdb, h | ⟨h1, h2, h3⟩⟩
      · exact ld_glob (X := X.suite a ((a, oe) :: (X.pn ++ pins))) S hg h z hdb
      · exact ld_blt (X := X.suite a ((a, oe) :: (X.pn ++ pins))) S hg h1 h2 z h3 hdb
    refine name (look.here ?_)
    cases t with
    | false => exact ih L (no rfl)
    | true =>
      have w := yes rfl a L.free
      obtain ⟨i, c, ts⟩ := q
      match n, i, hn with
      | none, none, _ =>
        refine codeAny_handlers_suite (HandSPX.lands_againZ L.fly fun h fl up => ?_)
        have L' : Lies X pins σ H a cls d B sI { s with heap := h } := ⟨L.inv, L.below, L.up.trans up, fl, L.free, L.os, L.bare⟩
        obtain ⟨oe, vs, he, hz, hd⟩ := fl.there
        have ap := L'.apart hf he hd
        refine wpAny_mono ((hsu a oe cls d (X.pn ++ pins) hz ⟨_, hd⟩).run [] _ _ H _ (L'.now.suite he hd L.free ap.1 ap.2) w) (fun f s6 e => ?_) fun _ _ z => z.elim
        cases f with
        | next => exact e.imp fun _ z => z.imp fun _ z => ⟨z.1.unsuite ok, z.2⟩
        | brk => exact e.imp fun _ z => z.imp fun _ z => ⟨z.1.unsuite ok, z.2⟩
        | cont => exact e.imp fun _ z => z.imp fun _ z => ⟨z.1.unsuite ok, z.2⟩
        | ret u => exact e.imp fun _ z => z.imp fun _ z => z.imp fun _ z => ⟨z.1.unsuite ok, z.2⟩
      | some n, some i, hn =>
        have hn' : X.N.Nodup ∧ X.N[i]? = some n ∧ X.env.kindOf n = some .local := hn
        refine codeAny_handlers_suite_as (HandSPX.lands_againZ L.fly fun h fl up => ?_)
        have L' : Lies X pins σ H a cls d B sI { s with heap := h } := ⟨L.inv, L.below, L.up.trans up, fl, L.free, L.os, L.bare⟩
        obtain ⟨oe, vs, he, hz, hd⟩ := fl.there
        have ap := L'.apart hf he hd
        refine store_ok (X := X.suite a ((a, oe) :: (X.pn ++ pins))) (v := .ref a) (L'.now.suite he hd L.free ap.1 ap.2) hn'.1 hn'.2.1 (.inl hn'.2.2) rfl (fun s5 S5 => ?_) (.inr hn'.2.2)
        refine wpAny_mono ((hsu a oe cls d (X.pn ++ pins) hz ⟨_, hd⟩).run [] s5 _ H _ S5 w) (fun f s6 e => ?_) fun _ _ z => z.elim
        cases f with
        | next => obtain ⟨_, _, S6, z⟩ := e; exact suite_end ok hn S6 fun s7 J => ⟨_, _, J, z⟩
        | brk => obtain ⟨_, _, S6, z⟩ := e; exact suite_end ok hn S6 fun s7 J => ⟨_, _, J, z⟩
        | cont => obtain ⟨_, _, S6, z⟩ := e; exact suite_end ok hn S6 fun s7 J => ⟨_, _, J, z⟩
        | ret u => obtain ⟨_, _, _, S6, r, z⟩ := e; exact suite_end ok hn S6 fun s7 J => ⟨_, _, _, J, r, z⟩
theorem ps_tryA {body : List Stmt} {h₀ : ExceptHandler} {hds : List ExceptHandler} {l : List Wish} {pos : Pos} {tb : WX → TS} (hs : X.stack = X.env :: X.outer) (hf : X.env.frame = some X.env.locals) (tk : Takes X Wout)
    (hb : ∀ (W : WX) (pn : List (Addr × Obj)) (xe : Value → Shared → Prop), Takes (X.tr pn xe) W → PassesOwn (model X.prog X.w) X.A X.env xe → PSs (X.tr pn xe) body (tb W)) (C : Clauses X (h₀ :: hds) l) :
    PS X (.Try body (h₀ :: hds) [] [] pos) (fun D σ H => tb (wishes X.K Wout D l) D σ H) := by
  refine ⟨fun pins s σ H D I w => wpAny_Try_except ?_⟩
  have ok := I.ok
  have caught : Takes (X.tr (X.pn ++ pins) fun e s₁ => wpAny (model X.prog X.w) X.A (noteFrame e X.env) (fun _ s₂ => wpAny (model X.prog X.w) X.A (setFlight e none) (fun _ s₃ => wpAny (model X.prog X.w) X.A (handleBy e X.env (h₀ :: hds)) (SP X pins D) X.xe s₃) X.xe s₂) X.xe s₁) (wishes X.K Wout D l) := by
    rintro _ s' ⟨a, B, sI, ps, σ', H', cls, d, rfl, J, nb, up, sky, na, os, ag, w⟩
    refine Sky.land (B := B) (outer := X.outer) Zc.steady (by rw [ok.frames, hs]) hf (by rw [← hs]; exact sky) fun h fl up2 => ?_
    exact Lies.tried hs hf tk C ⟨J.ofTry ok, nb, up.trans up2, fl, na, os, ag⟩ w
  refine wpAny_mono ((hb _ _ _ caught PassesOwn.looking).run [] s σ H D (I.toTry _) w) (fun f s1 e => ?_) fun _ _ z => z
  cases f with
  | next => obtain ⟨_, _, J, z⟩ := e; exact wpAny_execs_nil ⟨_, _, J.ofTry ok, z⟩
  | brk => obtain ⟨_, _, J, z⟩ := e; exact ⟨_, _, J.ofTry ok, z⟩
  | cont => obtain ⟨_, _, J, z⟩ := e; exact ⟨_, _, J.ofTry ok, z⟩
  | ret u => obtain ⟨_, _, _, J, r, z⟩ := e; exact ⟨_, _, _, J.ofTry ok, r, z⟩
end
end DL

namespace DL
open PySem PySem.Spec PyProof.Rows L2

/-! ### try: .. except C: .., except C as n: y = n.f -/
structure ClA where
  h : Str
  ms : List Str
  s : Xn → Env → W Fl
def handAW : List ClA → Xn → Env → W Fl
  | [], x, _, _, E => E x
  | c :: r, x, ρ, Q, E => if c.ms.contains x.c = true then c.s x ρ Q noX else handAW r x ρ Q E
def tryAW (xs : List Str) (wb : Env → W Fl) (l : List ClA) : Env → W Fl := fun ρ Q E => wb ρ Q (fun x => xs.contains x.c = true ∧ handAW l x ρ Q E)
def xgetL (f : Str) : List Str → List D → Option D
  | n :: ns, d :: ds => if f = n then some d else xgetL f ns ds
  | _, _ => none
/-- y = n.f, n the exception: slot i is n's, slot j y's -/
def xfldW (i j : Nat) (f : Str) (x : Xn) : Env → W Fl := fun ρ Q _ => match xgetL f x.ns x.ds with | some d => Q (.next ((ρ.set j (some d)).set i none)) | none => False
theorem xget_is {G : Gx} {F : Hp} {f : Str} : ∀ {fs : List (Str × V)} {ns : List Str} {ds : List D} {d : D}, fs.map Prod.fst = ns → IsL G F ds (fs.map Prod.snd) → xgetL f ns ds = some d → ∃ v, fs.lookup f = some v ∧ Is G F d v
  | [], ns, ds, d, e, i, h => by
    subst e
    unfold xgetL at h
    cases h
  | (n, u) :: fs, _, [], d, e, i, h => by
    subst e
    unfold xgetL at h
    cases h
  | (n, u) :: fs, _, d0 :: ds, d, e, i, h => by
    subst e
    obtain ⟨v, r, e1, i1, i2⟩ := i
    rw [List.map_cons] at e1
    injection e1 with e1 e2
    subst e1
    subst e2
    rw [List.map_cons] at h
    unfold xgetL at h
    rw [List.lookup_cons]
    by_cases hf : f = n
    · rw [if_pos hf] at h
      cases h
      have : (f == n) = true := by simpa using hf
      rw [this]
      exact ⟨u, rfl, i1⟩
    · rw [if_neg hf] at h
      have : (f == n) = false := by simpa using hf
      rw [this]
      exact xget_is rfl i2 h
theorem SR.unset {G : Gx} {C : Cf} {M : List Md} {F H : Hp} {σ : L2.St} {ρ : Env} (s : SR G C M F H σ ρ) (i : Nat) (w : Option V) : SR G C M F H (σ.set i w) (ρ.set i none) := by
  obtain ⟨fp, f, k⟩ := s.own
  refine ⟨s.base, by simp [s.ls], by simp [s.lr], fp, f, fun j d e => ?_⟩
  by_cases hj : j = i
  · subst hj
    by_cases hl : j < ρ.length
    · rw [List.getElem?_set_self hl] at e; cases e
    · rw [List.getElem?_eq_none (by simpa using hl)] at e; cases e
  · rw [List.getElem?_set_ne (Ne.symm hj)] at e
    obtain ⟨m, v, e1, e2, h1⟩ := k j d e
    exact ⟨m, v, e1, by rw [List.getElem?_set_ne (Ne.symm hj)]; exact e2, h1⟩
/-- the class of a clause that reads a field -/
structure FldX (K : PySem.W.Frag) (mg : Str → Option Value) (h f : Str) : Prop where
  ex : ∃ Ch, mg h = some (.ref Ch) ∧ XfC K Ch ∧ PySem.W.findIn K (.ref Ch) f = some none
section
variable {X : Cx} {C : Cf} {Ml M M1 M' : List Md} {rk : Kd} {Wx : WX} {pos p p2 : Pos} {G : Gx}
inductive DHsA (X : Cx) (C : Cf) (Ml : List Md) (rk : Kd) (M M1 : List Md) (xs : List Str) : List ExceptHandler → List ClA → Prop
  | nil : DHsA X C Ml rk M M1 xs [] []
  | cons {h : Str} {ms : List Str} {w : Env → W Fl} {b₀ : Stmt} {suite : List Stmt} {np pos' : Pos} {hds : List ExceptHandler} {l : List ClA} (hg : Gl X h) (hd : (h == ("__debug__" : Str)) = false) (hc : ClOk X.K X.mg xs h ms)
      (hsu : ∀ (a : Addr) (oe : Obj) (pn : List (Addr × Obj)), DSs (X.suite a ((a, oe) :: pn)) C Ml rk WX0 M M1 (b₀ :: suite) w) (r : DHsA X C Ml rk M M1 xs hds l) :
      DHsA X C Ml rk M M1 xs (.ExceptHandler (some (.Name h np)) none (b₀ :: suite) pos' :: hds) (⟨h, ms, fun _ => w⟩ :: l)
  | fld {h n y f : Str} {i j : Nat} {np pos' q1 q2 q3 q4 : Pos} {hds : List ExceptHandler} {l : List ClA} (hg : Gl X h) (hd : (h == ("__debug__" : Str)) = false) (hc : ClOk X.K X.mg xs h [h]) (hx : FldX X.K X.mg h f)
      (hN : X.N.Nodup) (hi : X.N[i]? = some n) (hn : X.env.kindOf n = some .local) (hj : X.N[j]? = some y) (hy : Loc X.env.scope y) (hyf : X.fn y = true ∨ X.env.scope.names.lookup y = some .local) (hil : i < M.length) (hjl : j < M.length)
      (hvis : Vis X.env.scope n) (hnd : (n == ("__debug__" : Str)) = false) (hnc : (n == ("__classdict__" : Str)) = false) (hb : attributeBase (.Name n q2) f X.env (eval (.Name n q2) X.env) = eval (.Name n q2) X.env)
      (hs : swapsWith (.Attribute (.Name n q2) f q3) (some (.Name y q1)) q4.line X.env = pure false) (hM : M.set j .v = M1) (r : DHsA X C Ml rk M M1 xs hds l) :
      DHsA X C Ml rk M M1 xs (.ExceptHandler (some (.Name h np)) (some n) [.Assign [.Name y q1] (.Attribute (.Name n q2) f q3) q4] pos' :: hds) (⟨h, [h], xfldW i j f⟩ :: l)
theorem DHsA.hds {xs : List Str} {hds : List ExceptHandler} {l : List ClA} (h : DHsA X C Ml rk M M1 xs hds l) : ∃ l', Clauses X hds l' ∧ ∀ (F H : Hp) (σ : L2.St) (ρ : Env), SR (gx X C) C M F H σ ρ → ∀ (Qd : Fl → Prop) (Ed : Xn → Prop) (D_ : Ends) (x : Xn) (cls : Value) (dd : Option Addr), IsX (gx X C) F H x cls dd → xs.contains x.c = true → handAW l x ρ Qd Ed →
    (∀ σ' ρ' F' H', Ex F F' → SR (gx X C) C M1 F' H' σ' ρ' → Qd (.next ρ') → D_.nx σ' H') →
    (∀ σ' ρ' F' H', Ex F F' → SR (gx X C) C Ml F' H' σ' ρ' → Qd (.brk ρ') → D_.bk σ' H') →
    (∀ σ' ρ' F' H', Ex F F' → SR (gx X C) C Ml F' H' σ' ρ' → Qd (.cont ρ') → D_.ct σ' H') →
    (∀ d v F' H', Ex F F' → SR0 C F' H' → KOk (gx X C) C.H0 F' H' rk d v → Qd (.ret d) → D_.rt v H') →
    (Ed x → Wx cls dd σ H) → wishes X.K Wx D_ l' cls dd σ H := by
  have same : ∀ {h : Str} {ms : List Str} {F H : Hp} {x : Xn} {cls : Value} {dd : Option Addr} {Ch : Addr}, (∀ c ∈ xs, ∃ Cc, X.mg c = some (.ref Cc) ∧ PySem.W.exmOne X.K (.ref Cc) (.ref Ch) = some (ms.contains c)) → IsX (gx X C) F H x cls dd → xs.contains x.c = true → PySem.W.exmOne X.K cls (.ref Ch) = some (ms.contains x.c) := by
    intro h ms F H x cls dd Ch hcl i hxs
    obtain ⟨Cc, rfl, m2, _⟩ := i
    obtain ⟨Cc', m3, e⟩ := hcl x.c (by simpa using hxs)
    have m2' : X.mg x.c = some (.ref Cc) := m2
    rw [m3] at m2'
    injection m2' with m2'
    injection m2' with m2'
    subst m2'
    exact e
  induction h with
  | nil => exact ⟨[], .nil, fun F H σ ρ s Qd Ed D_ x cls dd i _ hw _ _ _ _ hx => hx hw⟩
  | @cons h ms w b₀ suite np pos' hds l hg hd hc hsu r ih =>
    obtain ⟨l', ok, run⟩ := ih
    obtain ⟨Ch, m1, hcl⟩ := hc.ex
    refine ⟨⟨none, .ref Ch, fun _ _ _ => tuOf (gx X C) C Ml rk M M1 w⟩ :: l', .cons ⟨hg, hd, .inl m1⟩ trivial (fun a oe cls d pn _ _ => (hsu a oe pn).puOf) ok, fun F H σ ρ s Qd Ed D_ x cls dd i hxs hw h1 h2 h3 h4 hx => ?_⟩
    refine ⟨_, same (h := h) hcl i hxs, fun hb a _ => ?_, fun hb => ?_⟩
    · unfold handAW at hw
      rw [if_pos hb] at hw
      exact ⟨F, ρ, s, Qd, hw, h1, h2, h3, h4⟩
    · unfold handAW at hw
      rw [if_neg (by rw [hb]; simp)] at hw
      exact run F H σ ρ s Qd Ed D_ x _ dd i hxs hw h1 h2 h3 h4 hx
  | @fld h n y f i j np pos' q1 q2 q3 q4 hds l hg hd hc hx hN hi hn hj hy hyf hil hjl hvis hnd hnc hb hs hM r ih =>
    obtain ⟨l', ok, run⟩ := ih
    obtain ⟨Ch, m1, hcl⟩ := hc.ex
    obtain ⟨Ch', m1', T, hno⟩ := hx.ex
    rw [m1] at m1'
    injection m1' with m1'
    injection m1' with m1'
    subst m1'
    refine ⟨⟨some i, .ref Ch, fun a cls d => fun D σ H => tXf a cls d Ch f (tVar i) σ H fun v H1 => D.nx (σ.set j (some v)) H1⟩ :: l', .cons ⟨hg, hd, .inl m1⟩ ⟨hN, hi, hn⟩ (fun a oe cls d pn hz hfd => pss_one (ps_set (X := X.suite a ((a, oe) :: pn)) hN hj hy (pe_xf T hno hz hfd (pe_var (X := X.suite a ((a, oe) :: pn)) hi hvis hnd hnc) hb) hs hyf)) ok, fun F H σ ρ s Qd Ed D_ x cls dd ix hxs hw h1 h2 h3 h4 hx => ?_⟩
    refine ⟨_, same (h := h) hcl ix hxs, fun hb a _ => ?_, fun hb => ?_⟩
    · unfold handAW at hw
      rw [if_pos hb] at hw
      have hxc : x.c = h := by simpa using hb
      obtain ⟨Cc, rfl, m2, hcase⟩ := ix
      have m2' : X.mg x.c = some (.ref Cc) := m2
      rw [hxc, m1] at m2'
      injection m2' with m2'
      injection m2' with m2'
      subst m2'
      have hw' : (match xgetL f x.ns x.ds with | some d => Qd (.next ((ρ.set j (some d)).set i none)) | none => False) := hw
      cases ed : xgetL f x.ns x.ds with
      | none => rw [ed] at hw'; exact hw'.elim
      | some d =>
        rw [ed] at hw'
        replace hw' : Qd (.next ((ρ.set j (some d)).set i none)) := hw'
        rcases hcase with ⟨e1, e2, _⟩ | ⟨dp, fs, rfl, e1, e2, e3⟩
        · rw [e1, e2] at ed
          cases ed
        · obtain ⟨v, lv, iv⟩ := xget_is e2 e3 ed
          refine ⟨.ref a, List.getElem?_set_self (by rw [s.ls]; exact hil), rfl, rfl, dp, fs, v, rfl, e1, lv, ?_⟩
          have s1 := (s.unset i (some (.ref a))).setV (i := j) hjl iv
          have s2 := s1.unset i none
          rw [hM] at s2
          refine h1 _ _ F H (Ex.refl F) s2 ?_
          by_cases hij : i = j
          · subst hij
            rw [List.set_set, List.set_set]
            rw [List.set_set] at hw'
            exact hw'
          · rw [List.set_comm _ _ hij, List.set_set]
            exact hw'
    · unfold handAW at hw
      rw [if_neg (by rw [hb]; simp)] at hw
      exact run F H σ ρ s Qd Ed D_ x _ dd ix hxs hw h1 h2 h3 h4 hx
theorem ds_tryA {xs : List Str} {body : List Stmt} {h₀ : ExceptHandler} {hds : List ExceptHandler} {l : List ClA} {wb : Env → W Fl} (hs : X.stack = X.env :: X.outer) (hf : X.env.frame = some X.env.locals) (tk : Takes X Wx)
    (hb : ∀ (W : WX) (pn : List (Addr × Obj)) (xe : Value → Shared → Prop), Takes (X.tr pn xe) W → PassesOwn (model X.prog X.w) X.A X.env xe → DXs (X.tr pn xe) C Ml rk W M M1 body wb)
    (hh : DHsA X C Ml rk M M1 xs (h₀ :: hds) l) : DS X C Ml rk Wx M M1 (.Try body (h₀ :: hds) [] [] pos) (tryAW xs wb l) := by
  obtain ⟨l', ok, run⟩ := hh.hds (Wx := Wx)
  refine ⟨_, ps_tryA (tb := fun W => tsOf (gx X C) C Ml rk M M1 wb W) hs hf tk (fun W pn xe t p => (hb W pn xe t p).psOf) ok, fun F H σ ρ s Qd Ed D_ hw hn hbk hcn hr hx => ?_⟩
  refine ⟨F, ρ, s, Qd, _, hw, hn, hbk, hcn, hr, fun x cls dd F' H' g i q => ?_⟩
  exact run F' H' σ ρ (s.gr g) Qd Ed D_ x cls dd i q.1 q.2 (fun σ' ρ' F2 H2 e => hn σ' ρ' F2 H2 (g.ff.trans e)) (fun σ' ρ' F2 H2 e => hbk σ' ρ' F2 H2 (g.ff.trans e)) (fun σ' ρ' F2 H2 e => hcn σ' ρ' F2 H2 (g.ff.trans e)) (fun d v F2 H2 e => hr d v F2 H2 (g.ff.trans e)) fun q => hx x cls dd σ F' H' g.ff (s.base.gr g) i q
end
section
variable {Q : D → Prop} {QF : Fl → Prop} {E : Xn → Prop} {ρ : Env}
def kRaise1 (c f : Str) (E : Xn → Prop) : D → Prop := fun d => E ⟨c, [f], [d]⟩
theorem k_raise1 {c f : Str} {we : Env → W D} : raise1W c f we ρ QF E = we ρ (kRaise1 c f E) E := nr rfl
theorem kRaise1_e {c f : Str} {d : D} : kRaise1 c f E d = E ⟨c, [f], [d]⟩ := nr rfl
def kTryA (xs : List Str) (l : List ClA) (ρ : Env) (QF : Fl → Prop) (E : Xn → Prop) : Xn → Prop := fun x => xs.contains x.c = true ∧ handAW l x ρ QF E
theorem k_tryA {xs : List Str} {wb : Env → W Fl} {l : List ClA} : tryAW xs wb l ρ QF E = wb ρ QF (kTryA xs l ρ QF E) := nr rfl
theorem kTryA_e {xs : List Str} {l : List ClA} {x : Xn} : kTryA xs l ρ QF E x = (xs.contains x.c = true ∧ handAW l x ρ QF E) := nr rfl
theorem handAW_n {x : Xn} : handAW [] x ρ QF E = E x := nr rfl
theorem handAW_c {h : Str} {ms : List Str} {s : Xn → Env → W Fl} {r : List ClA} {x : Xn} : handAW (⟨h, ms, s⟩ :: r) x ρ QF E = (if ms.contains x.c = true then s x ρ QF noX else handAW r x ρ QF E) := nr rfl
end
/-! to be run -/
instance {c f : Str} {we : Env → W D} [he : RunE we] : RunE (raise1W c f we) where
  x := fun ρ => (he.x ρ).bind fun d => .ex ⟨c, [f], [d]⟩
  ok := fun ρ Q E h => by
    rw [post_bind] at h
    exact he.ok _ _ _ h
class RunHA (l : List ClA) where
  x : Xn → Env → Res Fl
  ok : ∀ y ρ Q E, (x y ρ).post Q E → handAW l y ρ Q E
class RunS (s : Xn → Env → W Fl) where
  x : Xn → Env → Res Fl
  ok : ∀ y ρ Q E, (x y ρ).post Q E → s y ρ Q E
instance {s : Env → W Fl} [hs : RunE s] : RunS (fun _ => s) := ⟨fun _ => hs.x, fun _ => hs.ok⟩
def xfldX (i j : Nat) (f : Str) (x : Xn) (ρ : Env) : Res Fl := match xgetL f x.ns x.ds with | some d => .ok (.next ((ρ.set j (some d)).set i none)) | none => .bad
instance {i j : Nat} {f : Str} : RunS (xfldW i j f) := ⟨xfldX i j f, fun y ρ Q E h => by
  unfold xfldX at h
  unfold xfldW
  cases e : xgetL f y.ns y.ds with
  | none => rw [e] at h; exact h.elim
  | some d => rw [e] at h; exact h⟩
instance : RunHA [] := ⟨fun y _ => .ex y, fun _ _ _ _ h => h⟩
instance {h : Str} {ms : List Str} {s : Xn → Env → W Fl} {l : List ClA} [hs : RunS s] [hl : RunHA l] : RunHA (⟨h, ms, s⟩ :: l) where
  x := fun y ρ => match ms.contains y.c with | true => (hs.x y ρ).calm | false => hl.x y ρ
  ok := fun y ρ Q E h => by
    unfold handAW
    replace h : (match ms.contains y.c with | true => (hs.x y ρ).calm | false => hl.x y ρ : Res Fl).post Q E := h
    cases e : ms.contains y.c with
    | true =>
      rw [if_pos rfl]
      rw [e] at h
      exact hs.ok _ _ _ _ (post_calm h)
    | false =>
      rw [if_neg Bool.false_ne_true]
      rw [e] at h
      exact hl.ok _ _ _ _ h
instance {s : Env → W Fl} {xs : List Str} {l : List ClA} [hs : RunE s] [hl : RunHA l] : RunE (tryAW xs s l) where
  x := fun ρ => tryX xs hl.x ρ (hs.x ρ)
  ok := fun ρ Q E h => by
    refine hs.ok _ _ _ ?_
    cases e : hs.x ρ with
    | ok f => rw [e] at h; exact h
    | bad => rw [e] at h; exact h.elim
    | ex y =>
      rw [e] at h
      obtain ⟨h1, h2⟩ := post_iff h
      exact ⟨h1, hl.ok _ _ _ _ h2⟩
end DL

namespace DL
open PySem PySem.Spec PyProof.Rows L2 NdefX

/-! ### the head's facts of own exceptions with a field -/
/-- the def __init__ of such a class, as it stands -/
abbrev SupV : Type := Option (Str × Str × Arguments × FuncBody × Scope × Addr × List Str × Addr)
def supV (qual : Str) (params : Arguments) (body : List Stmt) (scope : Scope) : SupV := some ("__init__", qual, params, .stmts body, scope, mainGlobals, ["__class__"], builtinsNs)
def supObs (K : PySem.W.Frag) (x : Str) : SupV := match K.lookup (He.ma K (He.ga K x) "__init__") with
  | some ⟨_, _, .func fd, _⟩ => some (fd.name, fd.qualname, fd.params, fd.body, fd.scope, fd.globals, fd.closure.map (·.1), fd.builtins)
  | _ => none
def oexB (K : PySem.W.Frag) (C : Addr) : Bool := (match K.lookup C with
  | some ⟨.type "type", _, .cls cd, sl⟩ => (match cd.mro, sl.toList with
    | .ref C' :: bm, [_, _, _, _, some (.builtin n), _] => C' == C && (n == "ValueError.__new__" && (!cd.hasDel && (cd.hasDict && PySem.HandSPX.refsVE bm)))
    | _, _ => false)
  | _ => false) && (He.eqO (PySem.W.findIn K (.ref C) "__setattr__") (some (some (.builtin "object.__setattr__"))) && (decide (PySem.W.subIn K (.ref C) (.type "BaseException") = some true) && (decide (PySem.W.typeIn K (.ref C) = some (.type "type")) && PySem.W.keepIn K (.ref C))))
theorem oexB_ok {K : PySem.W.Frag} {C : Addr} (h : oexB K C = true) : OexC K C := by
  obtain ⟨h0, h⟩ := He.ba h
  obtain ⟨h1, h⟩ := He.ba h
  obtain ⟨h2, h⟩ := He.ba h
  obtain ⟨h3, h4⟩ := He.ba h
  refine ⟨?_, He.eqO_ok h1, of_decide_eq_true h2, of_decide_eq_true h3, h4⟩
  split at h0
  · rename_i dd cd sl ho
    split at h0
    · rename_i C' bm k0 k1 k2 k3 n k5 hm hs
      simp only [Bool.and_eq_true, beq_iff_eq, Bool.not_eq_true'] at h0
      obtain ⟨rfl, rfl, hdel, hdc, hbm⟩ := h0
      obtain ⟨nm, bs, mro, ns, qn, hd, sn, sub, ab, col, del⟩ := cd
      dsimp only at hm hdel hdc
      subst hm hdel hdc
      have hsl : sl = #[k0, k1, k2, k3, some (.builtin "ValueError.__new__"), k5] := by
        rw [← hs]
      subst hsl
      exact ⟨nm, qn, ns, bs, bm, sn, sub, ab, col, dd, k0, k1, k2, k3, k5, ho, hbm⟩
    · cases h0
  · cases h0
def supB (K : PySem.W.Frag) (file : Str) (x f qual : Str) : Bool :=
  oexB K (He.ga K x) && (He.eqO (PySem.W.findIn K (.ref (He.ga K x)) "__init__") (some (some (.ref (He.ma K (He.ga K x) "__init__")))) && (decide (PySem.W.typeIn K (.ref (He.ma K (He.ga K x) "__init__")) = some (.type "function")) &&
  ((match K.lookup (He.ma K (He.ga K x) "__init__") with
   | some ⟨_, _, .func fd, _⟩ => (match fd.defaults, fd.kwdefaults, fd.annotations, fd.code, fd.closure with
      | .none, .none, none, .ref cda, [(_, cc)] => PySem.W.codeIn K (.ref cda) qual && ((match K.lookup cda with
          | some ⟨_, _, .fields vs, _⟩ => (match (vs[2]? : Option Value) with
            | some (.str fl _) => file == fl
            | _ => false)
          | _ => false) && (match K.lookup cc with
          | some ⟨_, _, .cell (some (.ref C')), _⟩ => decide (C' = He.ga K x)
          | _ => false))
      | _, _, _, _, _ => false)
   | _ => false) &&
  ((PySem.W.clsIn K (He.ga K x)).isSome && (decide (PySem.W.mroIn K (He.ga K x) (.ref (He.ga K x)) = some true) && (He.eqO (PySem.W.ks_superIn K (He.ga K x) (He.ga K x) "__init__") (some (some (.builtin "ValueError.__init__"))) &&
  (He.eqO (PySem.W.nsIn K cStatics "thirdparty.any") (some none) && (decide (PySem.W.subIn K (.ref (He.ga K x)) (.type "ValueError") = some true) && (He.eqO (PySem.W.findIn K (.ref (He.ga K x)) f) (some none) && xfB K (He.ga K x))))))))))
theorem sup_ok {P : Program} {K : PySem.W.Frag} {x f qual : Str} {params : Arguments} {body : List Stmt} {scope : Scope} (h : supB K P.main.file x f qual = true)
    (ho : supObs K x = supV qual params body scope) (ht : (P.main.scope.names.lookup ("super" : Str)).isSome = false) :
    (∃ cc cda fd, SupOk P K (He.ga K x) (He.ma K (He.ga K x) "__init__") cc cda fd qual params body scope) ∧ XfC K (He.ga K x) ∧ PySem.W.findIn K (.ref (He.ga K x)) f = some none := by
  obtain ⟨h1, h⟩ := He.ba h
  obtain ⟨h2, h⟩ := He.ba h
  obtain ⟨h3, h⟩ := He.ba h
  obtain ⟨h4, h⟩ := He.ba h
  obtain ⟨h5, h⟩ := He.ba h
  obtain ⟨h6, h⟩ := He.ba h
  obtain ⟨h7, h⟩ := He.ba h
  obtain ⟨h8, h⟩ := He.ba h
  obtain ⟨h9, h⟩ := He.ba h
  obtain ⟨h10, h11⟩ := He.ba h
  refine ⟨?_, xfB_ok h11, He.eqO_ok h10⟩
  unfold supObs at ho
  cases q : K.lookup (He.ma K (He.ga K x) "__init__") with
  | none =>
    rw [q] at h4
    cases h4
  | some o =>
    obtain ⟨oc, od, dt, osl⟩ := o
    rw [q] at h4 ho
    cases dt with
    | func fd =>
      obtain ⟨n1, n2, n3, n4, n5, n6, n7, n8, n9, n10, n11, n12, n13, n14, n15⟩ := fd
      have e2 : (some (n1, n2, n3, n4, n5, n6, n7.map (·.1), n15) : SupV) = supV qual params body scope := ho
      unfold supV at e2
      simp only [Option.some.injEq, Prod.mk.injEq] at e2
      obtain ⟨e1, e2, e3, e4, e5, e6, e7, e8⟩ := e2
      subst e1 e2 e3 e4 e5 e6 e8
      dsimp only at h4
      split at h4
      · rename_i cda yy cc
        obtain ⟨a1, a⟩ := He.ba h4
        obtain ⟨a2, a3⟩ := He.ba a
        have ey : yy = "__class__" := by
          have : ([yy] : List Str) = [("__class__" : Str)] := e7
          injection this
        subst ey
        obtain ⟨cd, hcd⟩ := Option.isSome_iff_exists.mp h5
        refine ⟨cc, cda, _, oexB_ok h1, He.eqO_ok h2, of_decide_eq_true h3, ⟨oc, od, n10, n11, n14, osl, q, rfl⟩, a1, ?_, ?_, ⟨cd, hcd⟩, of_decide_eq_true h6, He.eqO_ok h7, He.eqO_ok h8, of_decide_eq_true h9, ht⟩
        · split at a2
          · rename_i vs ccs hk
            split at a2
            · rename_i fl tf hv
              exact ⟨_, _, vs, ccs, fl, tf, hk, hv, a2⟩
            · cases a2
          · cases a2
        · split at a3
          · rename_i C' csl hk
            have := of_decide_eq_true a3
            subst this
            exact ⟨_, _, csl, hk⟩
          · cases a3
      · cases h4
    | _ => cases h4
/-- the body's shape, and what its positions let -/
def SupTxt (txt f par : Str) (body : List Stmt) : Prop := ∃ (j : Nat) (p0 p1 p2 p3 p4 p5 p6 p7 p8 p9 : Pos), body = supBody txt f par j p0 p1 p2 p3 p4 p5 p6 p7 p8 p9 ∧ (∀ env, swapsWith (.Call (.Attribute (.Call (.Name "super" p0) [] [] p1) "__init__" p2) [.Constant (.str txt) j p3] [] p4) none p5.line env = pure false) ∧
  ∃ pl : PySem.Env → Sem Bool, ∀ env, eval (.Call (.Attribute (.Call (.Name "super" p0) [] [] p1) "__init__" p2) [.Constant (.str txt) j p3] [] p4) env = (do
      let ov ← attributeBase (.Call (.Name "super" p0) [] [] p1) "__init__" env (eval (.Call (.Name "super" p0) [] [] p1) env)
      standAt p2.atName
      let (f, first) ← holding [ov] (getMethod ov "__init__" (pl env))
      callWith p4 f first (backTo p4 (starEach [.Constant (.str txt) j p3] env)) [])
/-- both facts that a law's texts want -/
theorem excx_of {P : Program} {w : World} {K : PySem.W.Frag} {mg : Str → Option Value} {base : Heap} {x f qual txt par : Str} {params : Arguments} {body : List Stmt} {scope : Scope} (h : supB K P.main.file x f qual = true)
    (ho : supObs K x = supV qual params body scope) (ht : (P.main.scope.names.lookup ("super" : Str)).isSome = false) (hmx : mg x = some (.ref (He.ga K x))) (hmg : mg "super" = none)
    (hbody : SupTxt txt f par body) (N : NScope ["self", par, "__class__"] ["self", par] ["__class__"] scope) (hks : scope.names.lookup ("super" : Str) = some .globalImplicit) (hxd : (par == ("__debug__" : Str)) = false) (hxc : (par == ("__classdict__" : Str)) = false) (hp : (params.posonlyargs ++ params.args).head?.map (·.arg) = some ("self" : Str))
    (hb : ∀ (cc cda : Addr) (doc pm ctv : Value) (us : List Value), us.length = 2 → bindArgs ((supNF qual params body scope cc cda).fd doc pm ctv) ⟨us, []⟩ = pure ((["self", par] : List Str).zip us)) : ExcX P w K mg base x f ∧ FldX K mg x f := by
  obtain ⟨j, p0, p1, p2, p3, p4, p5, p6, p7, p8, p9, rfl, hsw, pl, he⟩ := hbody
  obtain ⟨⟨cc, cda, fd, S⟩, T, hno⟩ := sup_ok h ho ht
  refine ⟨⟨_, _, fd, ["self", par], hmx, S.ox, S.fi, S.tI, ?_, sup_fn S hmg N hks hxd hxc hp hno hsw he⟩, ⟨_, hmx, T, hno⟩⟩
  obtain ⟨oc, od, doc, pm, ctv, osl, lk, rfl⟩ := S.lk
  exact .all fun us hl => hb cc cda doc pm ctv us hl

/-! ### the Hook -/
abbrev AlS : Type := He.AlD × Bool × List SupV
def obsS0 (fa : List He.Fa) (fn : List He.DefD) (ex : PySem.W.Frag → Bool) (xs : List Str) (K : PySem.W.Frag) : AlS := (He.obsD fa fn K, ex K, xs.map (supObs K))
def obsS (n : Nat) (fa : List He.Fa) (fn : List He.DefD) (ex : PySem.W.Frag → Bool) (xs : List Str) (g : Addr → Option Obj) : AlS := obsS0 fa fn ex xs (He.frG g (cStatics :: He.asD g n))
structure SaysS (fa : List He.Fa) (fn : List He.DefD) (ex : PySem.W.Frag → Bool) (xs : List Str) (vs : List SupV) (K : PySem.W.Frag) : Prop where
  t : He.SaysD fa fn K
  more : ex K = true
  sup : xs.map (supObs K) = vs
def hookS (n : Nat) (fa : List He.Fa) (fn : List He.DefD) (ex : PySem.W.Frag → Bool) (xs : List Str) (vs : List SupV) : PySem.W.Hook where
  α := AlS
  obs := fun s => obsS n fa fn ex xs s.heap.get?
  val := fun _ => (He.valD fn, true, vs)
  says := fun _ h => ∃ K : PySem.W.Frag, K.In h ∧ SaysS fa fn ex xs vs K
  of := fun _ _ e => ⟨_, He.frG_in, ⟨congrArg (fun z : AlS => z.1) e, congrArg (fun z : AlS => z.2.1) e, congrArg (fun z : AlS => z.2.2) e⟩⟩
  keeps := fun _ _ _ ⟨K, hK, c⟩ k => ⟨K, PySem.W.Frag.In.keeps hK k, c⟩
theorem obsS_eq {n : Nat} {fa : List He.Fa} {fn : List He.DefD} {ex : PySem.W.Frag → Bool} {xs : List Str} {vs : List SupV} {g : Addr → Option Obj} {s : Shared} (h : ∀ a, g a = s.heap.get? a) : obsS n fa fn ex xs g = (hookS n fa fn ex xs vs).obs s := by
  have e : g = s.heap.get? := funext h
  rw [e] <;> rfl
end DL

namespace DL
open PySem PySem.Spec PyProof.Rows L2

/-! ### zip of a list or a tuple with a list or a tuple -/
/-- one side: an iterator over what lies at l, a list (ls) or a tuple -/
structure Hand where
  ls : Bool
  i : Addr
  l : Addr
def hasSq : Bool → Addr → Array Value → Heap → Prop
  | true, l, xs, h => h.IsList l xs
  | false, l, xs, h => h.IsTuple l xs
def onIt : Bool → Addr → Addr → Nat → Heap → Prop
  | true, i, l, k, h => h.IsListIter i l k
  | false, i, l, k, h => h.IsTupleIter i l k
theorem hasSq.at {b : Bool} {l : Addr} {xs : Array Value} {h h' : Heap} (q : hasSq b l xs h) (e : ∀ o, h.get? l = some o → h'.get? l = some o) : hasSq b l xs h' := by
  cases b with
  | true => exact Heap.IsList.at q e
  | false => exact Heap.IsTuple.at q e
theorem onIt.at {b : Bool} {i l : Addr} {k : Nat} {h h' : Heap} (q : onIt b i l k h) (e : ∀ o, h.get? i = some o → h'.get? i = some o) : onIt b i l k h' := by
  cases b with
  | true => exact Heap.IsListIter.at q e
  | false => exact Heap.IsTupleIter.at q e
theorem onIt.lt {b : Bool} {i l : Addr} {k : Nat} {h : Heap} (q : onIt b i l k h) : i < h.objs.size := by
  cases b with
  | true => obtain ⟨_, e, _⟩ := q; exact Heap.lt_size e
  | false => obtain ⟨_, e, _⟩ := q; exact Heap.lt_size e
theorem onIt.obj {b : Bool} {i l : Addr} {k : Nat} {h : Heap} (q : onIt b i l k h) : ∃ o, h.get? i = some o ∧ ∀ v, o.data ≠ .cell v := by
  cases b with
  | true => obtain ⟨o, e, _, d⟩ := q; exact ⟨o, e, fun v z => by rw [d] at z; cases z⟩
  | false => obtain ⟨o, e, _, d⟩ := q; exact ⟨o, e, fun v z => by rw [d] at z; cases z⟩
section
variable {prog : Program} {w : World} {A : Around} {E : Value → Shared → Prop} {s : Shared}
/-- the next of one side, whether there is one or not -/
theorem step_side {b : Bool} {i l : Addr} {k : Nat} {xs : Array Value} {Q : Value → Shared → Prop} (hh : A.handled = none) (o : onIt b i l k s.heap) (q : hasSq b l xs s.heap)
    (yes : ∀ x h', xs[k]? = some x → onIt b i l (k + 1) h' → Heap.SameBut i s.heap h' → Q x { s with heap := h' })
    (no : ∀ h' e, xs[k]? = none → Heap.ExtBut i s.heap h' → (∃ o, h'.get? e = some o ∧ o.cls = .type "StopIteration") → E (.ref e) { s with heap := h' }) :
    wpAny (model prog w) A (Builtin.SmallTypes.nextOf (.ref i)) Q E s := by
  cases hx : xs[k]? with
  | none =>
    cases b with
    | true => exact wpAny_nextOf_list_end hh o q hx fun h' e hb he => no h' e hx hb he
    | false => exact RZ.nextOf_tuple_end hh o q hx fun h' e hb he => no h' e hx hb he
  | some x =>
    cases b with
    | true => exact wpAny_nextOf_list_item o q hx fun h' ho hs => yes x h' hx ho hs
    | false => exact RZ.nextOf_tuple_item o q hx fun h' ho hs => yes x h' hx ho hs
/-- what a step leaves alone -/
def Beside (z TO i j : Addr) (h h' : Heap) : Prop := ∀ c o, c ≠ z → c ≠ TO → c ≠ i → c ≠ j → h.get? c = some o → h'.get? c = some o
theorem zip2_next {p q : Bool} {z TI TO i j l m : Addr} {k : Nat} {xs ys : Array Value} {a b : Value} {Q : Value → Shared → Prop} (hh : A.handled = none) (D : ZipApart z TI TO i j l m)
    (hz : IsZip s.heap z TI TO .none) (hTI : IsPair s.heap TI (.ref i) (.ref j)) (hTO : IsPair s.heap TO a b) (hi : onIt p i l k s.heap) (hj : onIt q j m k s.heap) (hl : hasSq p l xs s.heap) (hm : hasSq q m ys s.heap)
    (yes : ∀ x y h', xs[k]? = some x → ys[k]? = some y → IsZip h' z TI TO (rawInt s.heap.objs.size) → IsPair h' TO x y → onIt p i l (k + 1) h' → onIt q j m (k + 1) h' → IsPair h' s.heap.objs.size x y → Beside z TO i j s.heap h' → Q (.ref s.heap.objs.size) { s with heap := h' })
    (no : ∀ h' e, xs[k]? = none ∨ ys[k]? = none → Beside z TO i j s.heap h' → (∃ o, h'.get? e = some o ∧ o.cls = .type "StopIteration") → E (.ref e) { s with heap := h' }) :
    wpAny (model prog w) A (Builtin.«zip.__next__» ⟨[.ref z], []⟩) (fun fin s' => ∃ v, fin = .done (.ret v) ∧ Q v s') E s := by
  have stop : ∀ (h1 : Heap) (e : Addr), xs[k]? = none ∨ ys[k]? = none → IsZip h1 z TI TO .ellipsis → Beside z TO i j s.heap h1 → (∃ o, h1.get? e = some o ∧ o.cls = .type "StopIteration") → wpAny (model prog w) A (setField (.ref z) 0 .none) (fun _ s' => E (.ref e) s') E { s with heap := h1 } := by
    intro h1 e hn z1 k1 ⟨o, ho, hc⟩
    have ne : e ≠ z := by
      intro y
      rw [y, z1] at ho
      cases ho
      simp at hc
    exact wpAny_setField_rec z1 (by simp) fun h2 _ hs => no h2 e hn (fun c o c1 c2 c3 c4 x => hs.extBut _ _ c1 (k1 c o c1 c2 c3 c4 x)) ⟨o, hs.extBut _ _ ne ho, hc⟩
  show wpAny _ _ (field (.ref z) 2 >>= _) _ _ _
  refine wpAny_bind (wpAny_field hz rfl (x := .bool false) rfl ?_)
  show wpAny _ _ (field (.ref z) 3 >>= _) _ _ _
  refine wpAny_bind (wpAny_field hz rfl (x := .ref TI) rfl (wpAny_bind (wpAny_seqItems hTI rfl ?_)))
  show wpAny _ _ (Builtin.SmallTypes.ownedTupleIsFree (.ref z) >>= _) _ _ _
  unfold Builtin.SmallTypes.ownedTupleIsFree
  refine wpAny_bind (wpAny_bind (wpAny_field hz rfl (x := .none) rfl (wpAny_pure ?_)))
  simp only [if_true]
  refine wpAny_bind (wpAny_rule (wpAny_bind (wpAny_field hz rfl (x := .ref TO) rfl (wpAny_bind (wpAny_setField_rec hz (by simp) fun ha za sa => ?_)))))
  replace za : IsZip ha z TI TO .ellipsis := za
  have ka : Beside z TO i j s.heap ha := fun c o c1 _ _ _ e => sa.extBut _ _ c1 e
  simp only [List.zipIdx_cons, List.zipIdx_nil, List.forIn_cons, List.forIn_nil]
  refine wpAny_bind (wpAny_bind (wpAny_bind (wpAny_onRaise ?_)))
  show wpAny _ _ (Builtin.SmallTypes.nextOf (.ref i) >>= _) _ _ _
  refine wpAny_bind (step_side hh (hi.at fun o e => sa.extBut _ _ D.i1z e) (hl.at fun o e => sa.extBut _ _ D.l1z e) (fun x hb hx ib sb => wpAny_pure ?_) fun hb e hx xb he => ?_)
  · have tb : IsPair hb TO a b := sb.extBut _ _ D.TOi1 (sa.extBut _ _ D.TOz hTO)
    refine wpAny_bind (wpAny_seqItems tb rfl (wpAny_bind (wpAny_updateSeq_pair tb fun hc tc sc => ?_)))
    replace tc : IsPair hc TO x b := tc
    refine wpAny_bind (wpAny_letGo (wpAny_pure (wpAny_bind (wpAny_bind (wpAny_onRaise ?_)))))
    have kc : Beside z TO i j s.heap hc := fun c o c1 c2 c3 c4 e => sc.extBut _ _ c2 (sb.extBut _ _ c3 (ka c o c1 c2 c3 c4 e))
    have zc : IsZip hc z TI TO .ellipsis := sc.extBut _ _ D.TOz.symm (sb.extBut _ _ D.i1z.symm za)
    show wpAny _ _ (Builtin.SmallTypes.nextOf (.ref j) >>= _) _ _ _
    refine wpAny_bind (step_side hh (hj.at fun o e => sc.extBut _ _ D.TOi2.symm (sb.extBut _ _ D.i12.symm (sa.extBut _ _ D.i2z e))) (hm.at fun o e => sc.extBut _ _ D.l2TO (sb.extBut _ _ D.l2i1 (sa.extBut _ _ D.l2z e))) (fun y hd hy jd sd => wpAny_pure ?_) fun hd e hy xd he => ?_)
    · have td : IsPair hd TO x b := sd.extBut _ _ D.TOi2 tc
      refine wpAny_bind (wpAny_seqItems td rfl (wpAny_bind (wpAny_updateSeq_pair td fun hf tf sf => ?_)))
      replace tf : IsPair hf TO x y := tf
      refine wpAny_bind (wpAny_letGo (wpAny_pure (wpAny_pure (wpAny_bind (wpAny_seqItems tf rfl (wpAny_bind (wpAny_newTuple ?_)))))))
      have size : hf.objs.size = s.heap.objs.size := by rw [sf.1, sd.1, sc.1, sb.1, sa.1]
      have zf : IsZip hf z TI TO .ellipsis := sf.extBut _ _ D.TOz.symm (sd.extBut _ _ D.i2z.symm zc)
      have kf : Beside z TO i j s.heap hf := fun c o c1 c2 c3 c4 e => sf.extBut _ _ c2 (sd.extBut _ _ c4 (kc c o c1 c2 c3 c4 e))
      have i_f : onIt p i l (k + 1) hf := ib.at fun o e => sf.extBut _ _ D.TOi1.symm (sd.extBut _ _ D.i12 (sc.extBut _ _ D.TOi1.symm e))
      have j_f : onIt q j m (k + 1) hf := jd.at fun o e => sf.extBut _ _ D.TOi2.symm e
      show wpAny _ _ (Builtin.SmallTypes.ownedTupleHandOut (.ref z) (.ref hf.objs.size) >>= _) _ _ _
      unfold Builtin.SmallTypes.ownedTupleHandOut
      have zg : IsZip (hf.push { cls := .type "tuple", data := .seq #[x, y] }) z TI TO .ellipsis := Heap.get?_push_of_some _ zf
      refine wpAny_bind (wpAny_bind (wpAny_setField_rec zg (by simp) fun hn zn sn => ?_))
      replace zn : IsZip hn z TI TO (rawInt hf.objs.size) := zn
      refine wpAny_setField_rec zn (by simp) fun ho zo so => ?_
      replace zo : IsZip ho z TI TO (rawInt hf.objs.size) := zo
      have up : ∀ c o, c ≠ z → hf.get? c = some o → ho.get? c = some o := fun c o c1 e => so.extBut _ _ c1 (sn.extBut _ _ c1 (Heap.get?_push_of_some _ e))
      have pr : IsPair ho hf.objs.size x y := so.extBut _ _ (Nat.ne_of_gt (Heap.lt_size zf)) (sn.extBut _ _ (Nat.ne_of_gt (Heap.lt_size zf)) (Heap.get?_push_size _ rfl))
      rw [size] at zo pr
      refine wpAny_pure ⟨_, rfl, ?_⟩
      show Q (.ref hf.objs.size) _
      rw [size]
      exact yes x y ho hx hy zo (up _ _ D.TOz tf) (i_f.at fun o e => up _ o D.i1z e) (j_f.at fun o e => up _ o D.i2z e) pr fun c o c1 c2 c3 c4 e => up c o c1 (kf c o c1 c2 c3 c4 e)
    · exact stop hd e (.inr hy) (xd _ _ D.i2z.symm zc) (fun c o c1 c2 c3 c4 x => xd _ _ c4 (kc c o c1 c2 c3 c4 x)) he
  · exact stop hb e (.inl hx) (xb _ _ D.i1z.symm za) (fun c o c1 c2 c3 c4 x => xb _ _ c3 (ka c o c1 c2 c3 c4 x)) he
end
end DL

set_option maxHeartbeats 1000000
namespace DL
open PySem PySem.Spec PyProof.Rows L2
section
variable {prog : Program} {w : World} {A : Around} {E : Value → Shared → Prop} {s : Shared}
/-- the making -/
abbrev itO (b : Bool) (l : Addr) : Obj := { cls := .type (if b then "list_iterator" else "tuple_iterator"), data := .fields #[.ref l, .int 0 0] }
abbrev zh2 (h : Heap) (p q : Bool) (l m : Addr) : Heap := (h.push (itO p l)).push (itO q m)
abbrev zh3 (h : Heap) (p q : Bool) (l m : Addr) : Heap := (zh2 h p q l m).push { cls := .type "tuple", data := .seq #[.ref h.objs.size, .ref (h.push (itO p l)).objs.size] }
abbrev zh4 (h : Heap) (p q : Bool) (l m : Addr) : Heap := (zh3 h p q l m).push { cls := .type "tuple", data := .seq #[.none, .none] }
abbrev zh5 (h : Heap) (p q : Bool) (l m : Addr) : Heap := (zh4 h p q l m).push { cls := .type "zip", data := .fields #[.none, .bool false, .bool false, .ref (zh2 h p q l m).objs.size, .ref (zh3 h p q l m).objs.size] }
theorem meets_zip2 (p q : Bool) (l m : Addr) (xs ys : Array Value) :
    Meets (Builtin.«zip.__new__» ⟨[.type "zip", .ref l, .ref m], []⟩) (fun _ R s => hasSq p l xs s.heap ∧ hasSq q m ys s.heap ∧
      R (.ok (.ret (.ref (zh4 s.heap p q l m).objs.size))) { s with heap := zh5 s.heap p q l m }) :=
  .of_wp fun prog w A R s h => by
    obtain ⟨hp, g, d, tk, os⟩ := s
    obtain ⟨a, b, h⟩ := h
    have sub := sub_zip
    have b' : hasSq q m ys (hp.push (itO p l)) := b.at fun o e => Heap.get?_push_of_some _ e
    cases p <;> cases q
    · have u : Heap.IsTuple (Shared.heap ⟨hp, g, d, tk, os⟩) l xs := a
      have v : Heap.IsTuple (Shared.heap ⟨hp.push { cls := .type "tuple_iterator", data := .fields #[.ref l, .int 0 0] }, g, d, tk, os⟩) m ys := b'
      wp_walk using wpAny_pyIter_tuple u, wpAny_pyIter_tuple v
      exact ⟨_, rfl, h⟩
    · have u : Heap.IsTuple (Shared.heap ⟨hp, g, d, tk, os⟩) l xs := a
      have v : Heap.IsList (Shared.heap ⟨hp.push { cls := .type "tuple_iterator", data := .fields #[.ref l, .int 0 0] }, g, d, tk, os⟩) m ys := b'
      wp_walk using wpAny_pyIter_tuple u, wpAny_pyIter_list v
      exact ⟨_, rfl, h⟩
    · have u : Heap.IsList (Shared.heap ⟨hp, g, d, tk, os⟩) l xs := a
      have v : Heap.IsTuple (Shared.heap ⟨hp.push { cls := .type "list_iterator", data := .fields #[.ref l, .int 0 0] }, g, d, tk, os⟩) m ys := b'
      wp_walk using wpAny_pyIter_list u, wpAny_pyIter_tuple v
      exact ⟨_, rfl, h⟩
    · have u : Heap.IsList (Shared.heap ⟨hp, g, d, tk, os⟩) l xs := a
      have v : Heap.IsList (Shared.heap ⟨hp.push { cls := .type "list_iterator", data := .fields #[.ref l, .int 0 0] }, g, d, tk, os⟩) m ys := b'
      wp_walk using wpAny_pyIter_list u, wpAny_pyIter_list v
      exact ⟨_, rfl, h⟩
theorem itO_on {b : Bool} {i l : Addr} {h : Heap} (e : h.get? i = some (itO b l)) : onIt b i l 0 h := by
  cases b with
  | true => exact ⟨_, e, rfl, rfl⟩
  | false => exact ⟨_, e, rfl, rfl⟩
theorem call_zip2 {p q : Bool} {l m : Addr} {xs ys : Array Value} {Q : Value → Shared → Prop} (a : hasSq p l xs s.heap) (b : hasSq q m ys s.heap)
    (h : ∀ h', IsZip h' (s.heap.objs.size + 4) (s.heap.objs.size + 2) (s.heap.objs.size + 3) .none → IsPair h' (s.heap.objs.size + 2) (.ref s.heap.objs.size) (.ref (s.heap.objs.size + 1)) →
      IsPair h' (s.heap.objs.size + 3) .none .none → onIt p s.heap.objs.size l 0 h' → onIt q (s.heap.objs.size + 1) m 0 h' → (∀ c o, s.heap.get? c = some o → h'.get? c = some o) → Q (.ref (s.heap.objs.size + 4)) { s with heap := h' }) :
    wpAny (model prog w) A (call (.type "zip") [.ref l, .ref m]) Q E s := by
  refine callType_new F.called_zip (by decide) (F.typeCall_zip_2 _ _) (F.newCall_zip_2 _ _) (fun obj => F.args_object_init_3 obj _ _) F.entry_zip_new (meets_zip2 p q l m xs ys) ⟨a, b, ?_⟩
  have n1 : (s.heap.push (itO p l)).objs.size = s.heap.objs.size + 1 := Heap.size_push ..
  have n2 : (zh2 s.heap p q l m).objs.size = s.heap.objs.size + 2 := by rw [Heap.size_push, n1]
  have n3 : (zh3 s.heap p q l m).objs.size = s.heap.objs.size + 3 := by rw [Heap.size_push, n2]
  have n4 : (zh4 s.heap p q l m).objs.size = s.heap.objs.size + 4 := by rw [Heap.size_push, n3]
  have up {h : Heap} {c : Addr} {o ob : Obj} (e : h.get? c = some o) : (h.push ob).get? c = some o := Heap.get?_push_of_some _ e
  have o1 : (zh5 s.heap p q l m).get? s.heap.objs.size = some (itO p l) := up (up (up (up (Heap.get?_push_size _ rfl))))
  have o2 : (zh5 s.heap p q l m).get? (s.heap.push (itO p l)).objs.size = some (itO q m) := up (up (up (Heap.get?_push_size _ rfl)))
  have o3 : IsPair (zh5 s.heap p q l m) (zh2 s.heap p q l m).objs.size (.ref s.heap.objs.size) (.ref (s.heap.push (itO p l)).objs.size) := up (up (Heap.get?_push_size _ rfl))
  have o4 : IsPair (zh5 s.heap p q l m) (zh3 s.heap p q l m).objs.size .none .none := up (Heap.get?_push_size _ rfl)
  have o5 : IsZip (zh5 s.heap p q l m) (zh4 s.heap p q l m).objs.size (zh2 s.heap p q l m).objs.size (zh3 s.heap p q l m).objs.size .none := Heap.get?_push_size _ rfl
  rw [n1] at o2
  rw [n2, n1] at o3
  rw [n3] at o4
  rw [n4, n3, n2] at o5
  show _ ∧ _
  rw [n4]
  exact ⟨⟨_, o5, rfl⟩, h _ o5 o3 o4 (itO_on o1) (itO_on o2) fun c o e => up (up (up (up (up e))))⟩
end
end DL

namespace DL
open PySem PySem.Spec PyProof.Rows L2
/-! the loop's side -/
def SqB (K : PySem.W.Frag) (b : Bool) (H : Hp) (a : Addr) (xs : List V) : Prop := match b with | true => SqL K H a xs | false => SqT K H a xs
theorem SqB.has {X : Cx} {pins : List (Addr × Obj)} {σ : L2.St} {H : Hp} {s : Shared} {b : Bool} {a : Addr} {xs : List V} (I : Inv X pins σ H s) (q : SqB X.K b H a xs) : ∃ us : List Value, Vals xs us ∧ hasSq b a us.toArray s.heap ∧ a < s.heap.objs.size := by
  cases b with
  | true => obtain ⟨us, r, e, _⟩ := I.list q; exact ⟨us, r, e.isList, e.lt⟩
  | false => obtain ⟨us, r, e, _⟩ := I.tuple q; exact ⟨us, r, e, by obtain ⟨o, h, _⟩ := id e; exact Heap.lt_size h⟩
theorem SqB.inj {X : Cx} {pins : List (Addr × Obj)} {σ : L2.St} {H : Hp} {s : Shared} {b : Bool} {a : Addr} {xs ys : List V} (I : Inv X pins σ H s) (q : SqB X.K b H a xs) (q' : SqB X.K b H a ys) : xs = ys := by
  cases b with
  | true => exact I.list_inj q q'
  | false => exact I.tuple_inj q q'
def ItZ (K : PySem.W.Frag) (p q : Bool) (a b : Addr) : It :=
  ⟨fun i H => ∃ (xs ys : List V) (x y : V), SqB K p H a xs ∧ SqB K q H b ys ∧ xs[i]? = some x ∧ ys[i]? = some y,
    fun i H v H' => ∃ T x y, v = .ref T ∧ H T = none ∧ H' = upd H T (.tup [x, y]) ∧ (∀ xs, SqB K p H a xs → xs[i]? = some x) ∧ ∀ ys, SqB K q H b ys → ys[i]? = some y,
    fun i H => ∃ xs ys : List V, SqB K p H a xs ∧ SqB K q H b ys ∧ (xs.length ≤ i ∨ ys.length ≤ i)⟩
def zipSt (p q : Bool) (z TI TO i1 i2 a b : Addr) (k : Nat) (h : Heap) : Prop := IsZip h z TI TO .none ∧ IsPair h TI (.ref i1) (.ref i2) ∧ (∃ x y, IsPair h TO x y) ∧ onIt p i1 a k h ∧ onIt q i2 b k h
theorem zip_five {z TI TO i1 i2 c : Addr} (h : c ∈ [z, TI, TO, i1, i2]) : c = z ∨ c = TI ∨ c = TO ∨ c = i1 ∨ c = i2 := by simpa using h
theorem turn_zip2 {P : Program} {w : World} {K : PySem.W.Frag} {elts : List Expr} {kk : Nat} {tpos : Pos} {p q : Bool} {a b z TI TO i1 i2 : Addr} (D : ZipApart z TI TO i1 i2 a b) :
    Turn P w K (.Tuple elts kk tpos) (ItZ K p q a b) [z, TI, TO, i1, i2] z (zipSt p q z TI TO i1 i2 a b) where
  mem := by simp
  obj := fun k h ⟨hz, hTI, ⟨_, _, hTO⟩, o1, o2⟩ c hc => by
    rcases zip_five hc with rfl | rfl | rfl | rfl | rfl
    · exact ⟨_, hz, fun v z => nomatch z⟩
    · exact ⟨_, hTI, fun v z => nomatch z⟩
    · exact ⟨_, hTO, fun v z => nomatch z⟩
    · exact o1.obj
    · exact o2.obj
  keep := fun k h h' ⟨hz, hTI, ⟨x, y, hTO⟩, o1, o2⟩ e => ⟨e z (by simp) _ hz, e TI (by simp) _ hTI, ⟨x, y, e TO (by simp) _ hTO⟩, o1.at fun o z => e i1 (by simp) o z, o2.at fun o z => e i2 (by simp) o z⟩
  item := by
    intro X hP hw hK hc k pins s σ H E I hf st hg
    subst hP hw hK
    obtain ⟨hz, hTI, ⟨x0, y0, hTO⟩, o1, o2⟩ := st
    obtain ⟨xs, ys, x, y, sx, sy, ex, ey⟩ := hg
    obtain ⟨us, ru, hu, _⟩ := sx.has I
    obtain ⟨ws, rw_, hw, _⟩ := sy.has I
    obtain ⟨u, eu, vu⟩ := ru.get ex
    obtain ⟨v, ev, vv⟩ := rw_.get ey
    have zl : z < s.heap.objs.size := Heap.lt_size hz
    unfold pyNext
    refine wpAny_bind (wpAny_attempt (wpAny_callSpecial?_slot (name := Str.ofString "__next__") ⟨_, hz, rfl⟩ F.slot_zip_next (wpAny_call_entry F.slot_zip_next ⟨_, hz, rfl⟩ F.entry_zip_next (zip2_next (I.ok.hd hc) D hz hTI hTO o1 o2 hu hw (fun u' v' h' eu' ev' z' to' o1' o2' pr bs => wpAny_pure ?_) fun h' e hn _ _ => ?_) (F.args_zip_next_1 _))))
    · have : u' = u := by
        have : us[k]? = some u' := by simpa using eu'
        rw [eu] at this; exact (Option.some.inj this).symm
      subst this
      have : v' = v := by
        have : ws[k]? = some v' := by simpa using ev'
        rw [ev] at this; exact (Option.some.inj this).symm
      subst this
      refine ⟨_, rfl, wpAny_letOwnedTupleGo_zip (s := { s with heap := h' }) z' fun h2 z2 sb => ?_⟩
      have pr2 : h2.get? s.heap.objs.size = some { cls := .type "tuple", data := .seq #[u', v'] } := (sb.2 _ (Nat.ne_of_gt zl)).trans pr
      have new : ObjOk X.prog X.w (upd H s.heap.objs.size (.tup [x, y])) h2 s.heap.objs.size (.tup [x, y]) := ⟨by show 2 ≤ sizeLine; decide, [u', v'], .cons vu (.cons vv .nil), ⟨_, pr2, rfl, _, rfl⟩⟩
      have I2 : Inv X pins σ (upd H s.heap.objs.size (.tup [x, y])) { s with heap := h2 } :=
        I.turnedNew (t' := s.toks) (ch := [z, TI, TO, i1, i2]) (fun c o hb e => (sb.2 c fun z' => hb (by simp [z'])).trans (bs c o (fun z' => hb (by simp [z'])) (fun z' => hb (by simp [z'])) (fun z' => hb (by simp [z'])) (fun z' => hb (by simp [z'])) e)) hf (Nat.le_refl _) new
      refine ⟨.ref s.heap.objs.size, _, I2, rfl, ⟨_, x, y, rfl, I.hok.fresh (Nat.le_refl _), rfl, fun l hl => by rw [SqB.inj I hl sx]; exact ex, fun l hl => by rw [SqB.inj I hl sy]; exact ey⟩, ⟨z2, (sb.2 _ D.TIz).trans (bs _ _ D.TIz D.TITO D.TIi1 D.TIi2 hTI), ⟨u', v', (sb.2 _ D.TOz).trans to'⟩, o1'.at fun o e => (sb.2 _ D.i1z).trans e, o2'.at fun o e => (sb.2 _ D.i2z).trans e⟩, fun c hm => ?_⟩
      have lt : c < s.heap.objs.size := by
        rcases zip_five hm with rfl | rfl | rfl | rfl | rfl
        · exact zl
        · exact Heap.lt_size hTI
        · exact Heap.lt_size hTO
        · exact o1.lt
        · exact o2.lt
      rw [upd_ne (Nat.ne_of_lt lt)]
      exact (hf c hm).1
    · exfalso
      rcases hn with hn | hn
      · have : us[k]? = none := by simpa using hn
        rw [eu] at this; cases this
      · have : ws[k]? = none := by simpa using hn
        rw [ev] at this; cases this
  done := by
    intro X hP hw hK hc k pins s σ H E I hf st hg
    subst hP hw hK
    obtain ⟨hz, hTI, ⟨x0, y0, hTO⟩, o1, o2⟩ := st
    obtain ⟨xs, ys, sx, sy, hend⟩ := hg
    obtain ⟨us, ru, hu, _⟩ := sx.has I
    obtain ⟨ws, rw_, hw, _⟩ := sy.has I
    have l1 := ru.length
    have l2 := rw_.length
    unfold pyNext
    refine wpAny_bind (wpAny_attempt (wpAny_callSpecial?_slot (name := Str.ofString "__next__") ⟨_, hz, rfl⟩ F.slot_zip_next (wpAny_call_entry F.slot_zip_next ⟨_, hz, rfl⟩ F.entry_zip_next (zip2_next (I.ok.hd hc) D hz hTI hTO o1 o2 hu hw (fun u' v' h' eu' ev' _ _ _ _ _ _ => ?_) fun h' e _ bs he => ?_) (F.args_zip_next_1 _))))
    · exfalso
      have h1 : k < us.length := by have := (Array.getElem?_eq_some_iff.mp eu').1; simpa using this
      have h2 : k < ws.length := by have := (Array.getElem?_eq_some_iff.mp ev').1; simpa using this
      omega
    · obtain ⟨o, ho, hcl⟩ := he
      refine wpAny_bind (wpAny_isInstance (T := "StopIteration") (b := true) ⟨o, ho, hcl⟩ isSubtype_stop (wpAny_pure ⟨rfl, ?_⟩))
      exact I.turnedL (t' := s.toks) (ch := [z, TI, TO, i1, i2]) (fun c o hb e => bs c o (fun z' => hb (by simp [z'])) (fun z' => hb (by simp [z'])) (fun z' => hb (by simp [z'])) (fun z' => hb (by simp [z'])) e) hf
  self := fun A i s Q E st h => wpAny_pyIter_zip st.1 h
end DL

namespace DL
open PySem PySem.Spec PyProof.Rows L2
def iZip2 (K : PySem.W.Frag) (ta : TA) : TI := fun σ H R => ta σ H fun vs H1 => ∃ p q a b xs ys, vs = [.ref a, .ref b] ∧ SqB K p H1 a xs ∧ SqB K q H1 b ys ∧ R (ItZ K p q a b) H1
theorem pi_zip2 {X : Cx} {e e2 : Expr} {ta : TA} {p pos tpos : Pos} {elts : List Expr} {kk : Nat} (hg : Gl X "zip") (hm : X.mg "zip" = none) (ha : PA X [e, e2] ta)
    (hs : starEach [e, e2] X.env = (false, eval e X.env) :: starEach [e2] X.env := by rfl) (hpl : (backTo pos (starEach [e2] X.env)).any (·.1) = false := by rfl) :
    PI X (.Tuple elts kk tpos) (.Call (.Name "zip" p) [e, e2] [] pos) (iZip2 X.K ta) := by
  refine ⟨fun pins s σ H R I h => Call_ (ld_blt I hg hm PyProof.Rows.boot_zip (PyProof.Rows.callWith_type1 (thn (ha.run pos pins s σ H _ I h) fun us s1 ⟨vs, H1, I1, r1, q1⟩ => ?_) hs hpl))⟩
  obtain ⟨p, q, a, b, xs, ys, rfl, sx, sy, q1⟩ := q1
  cases r1 with
  | cons r rr =>
   cases rr with
   | cons r' rr =>
    cases rr
    cases r
    cases r'
    obtain ⟨_, _, hx, la⟩ := sx.has I1
    obtain ⟨_, _, hy, lb⟩ := sy.has I1
    refine call_zip2 hx hy fun h' hz hTI hTO o1 o2 up => wpAny_pyIter_zip hz ?_
    have I2 : Inv X pins σ H1 { s1 with heap := h' } := I1.kept (t' := s1.toks) up
    refine ⟨_, [s1.heap.objs.size + 4, s1.heap.objs.size + 2, s1.heap.objs.size + 3, s1.heap.objs.size, s1.heap.objs.size + 1], _, _, H1, rfl, I2, turn_zip2 (p := p) (q := q) (PySem.W.ktu_apart s1.heap.objs.size a b la lb), ?_, fun c hc => ?_, q1⟩
    · exact ⟨hz, hTI, ⟨_, _, hTO⟩, o1, o2⟩
    · have le : s1.heap.objs.size ≤ c := by
        rcases zip_five hc with z | z | z | z | z <;> rw [z] <;> first | exact Nat.le_add_right _ _ | exact Nat.le_refl _
      exact I1.fpOk le (I1.hok.fresh le)

/-! ### the rule -/
def zip2I (wa wb : Env → W D) : Env → W (List D) := fun ρ Q E => wa ρ (fun x => wb ρ (fun y => match seqB x, seqB y with | some xs, some ys => Q (zipD xs ys) | _, _ => False) E) E
section
variable {X : Cx} {C : Cf} {M : List Md} {Wx : WX} {pos p tpos : Pos}
theorem sq_side {X : Cx} {C : Cf} {F H : Hp} {d : D} {v : V} {xs : List D} (fh : Ex F (hid C.pl H)) (i : Is (gx X C) F d v) (e : seqB d = some xs) : ∃ (a : Addr) (vs : List V) (b : Bool), v = .ref a ∧ IsL (gx X C) F xs vs ∧ (H a = some (.lst vs) ∨ H a = some (.tup vs)) ∧ ∀ (F3 H3 : Hp), Ex F F3 → Ex F3 (hid C.pl H3) → SqB X.K b H3 a vs := by
  obtain ⟨a, vs, rfl, h1, _, h3⟩ := seq_is (fh.trans hid_ex) i e
  rcases h3 with h3 | h3
  · exact ⟨a, vs, true, rfl, h1, .inl (hid_some (fh _ _ h3)).2, fun F3 H3 e3 f3 => .inl (.inl (hid_some (f3 _ _ (e3 _ _ h3))).2)⟩
  · exact ⟨a, vs, false, rfl, h1, .inr (hid_some (fh _ _ h3)).2, fun F3 H3 e3 f3 => .inl (.inl (hid_some (f3 _ _ (e3 _ _ h3))).2)⟩
theorem di_zip2 {a b : Expr} {wa wb : Env → W D} {elts : List Expr} {kk : Nat} (hg : Gl X "zip") (hm : X.mg "zip" = none) (ha : DE X C M Wx .v a wa) (hb : DE X C M Wx .v b wb)
    (hs : starEach [a, b] X.env = (false, eval a X.env) :: starEach [b] X.env := by rfl) (hs2 : starEach [b] X.env = (false, eval b X.env) :: starEach [] X.env := by rfl) (hpl : (backTo pos (starEach [b] X.env)).any (·.1) = false := by rfl) : DI X C M Wx .v (.Tuple elts kk tpos) (.Call (.Name "zip" p) [a, b] [] pos) (zip2I wa wb) := by
  obtain ⟨ta, pa, sa⟩ := ha.ex
  obtain ⟨tb, pb, sb⟩ := hb.ex
  refine ⟨_, pi_zip2 hg hm (pa_cons pa (pa_cons pb pa_nil hs2) hs) hs hpl, fun F H σ ρ s Qd Ed R hw hq hx => ?_⟩
  refine sa F H σ ρ s _ Ed _ hw (fun d v F1 H1 g1 i1 hw2 => ?_) hx
  refine sb F1 H1 σ ρ (s.gr g1) _ Ed _ hw2 (fun d2 v2 F2 H2 g2 i2 hw3 => ?_) fun x cls dd F2 H2 g2 => hx x cls dd F2 H2 (g1.trans g2)
  replace i1 : Is (gx X C) F2 d v := Is.mono g2.ff _ _ i1
  replace i2 : Is (gx X C) F2 d2 v2 := i2
  have g12 := g1.trans g2
  split at hw3
  · rename_i xs ys ex ey
    obtain ⟨a, vs, bp, rfl, h1, hA, sA⟩ := sq_side g12.fh i1 ex
    obtain ⟨b, us, bq, rfl, k1, hB, sB⟩ := sq_side g12.fh i2 ey
    have hzl : (zipD xs ys).length = min xs.length ys.length := by simp [zipD]
    refine ⟨bp, bq, a, b, vs, us, rfl, sA F2 H2 (Ex.refl F2) g12.fh, sB F2 H2 (Ex.refl F2) g12.fh, hq _ F2 H2 _ g12 (fun F3 H3 e3 _ f3 p3 => ?_) (fun z => ?_) hw3⟩
    · have hl := sA F3 H3 e3 f3
      have hl2 := sB F3 H3 e3 f3
      refine ⟨⟨vs, us, hl, hl2, by rw [h1.len, k1.len, hzl]; omega⟩, fun i d hd => ?_⟩
      obtain ⟨x, y, hx2, hy2, rfl⟩ := zip_get hd
      obtain ⟨v, hv, iv⟩ := h1.get hx2
      obtain ⟨u, hu, iu⟩ := k1.get hy2
      refine ⟨⟨vs, us, v, u, hl, hl2, hv, hu⟩, fun w H4 yy => ?_⟩
      obtain ⟨T, x', y', rfl, hT, rfl, y2, y3⟩ := yy
      have q1 := y2 vs hl
      have q2 := y3 us hl2
      rw [hv] at q1
      rw [hu] at q2
      cases q1
      cases q2
      exact pair_new f3 p3 (Is.mono e3 _ _ iv) (Is.mono e3 _ _ iu) hT
    · have := z a vs hA
      rw [h1.len] at this
      rw [hzl]; omega
  · exact hw3.elim
end
section
variable {QL : List D → Prop} {E : Xn → Prop} {ρ : Env}
def kZw2 (QL : List D → Prop) (x : D) : D → Prop := fun y => match seqB x, seqB y with | some xs, some ys => QL (zipD xs ys) | _, _ => False
def kZw1 (wb : Env → W D) (ρ : Env) (QL : List D → Prop) (E : Xn → Prop) : D → Prop := fun x => wb ρ (kZw2 QL x) E
theorem k_zip2 {wa wb : Env → W D} : zip2I wa wb ρ QL E = wa ρ (kZw1 wb ρ QL E) E := nr rfl
theorem kZw1_e {wb : Env → W D} {x : D} : kZw1 wb ρ QL E x = wb ρ (kZw2 QL x) E := nr rfl
theorem kZw2_e {x y : D} : kZw2 QL x y = (match seqB x, seqB y with | some xs, some ys => QL (zipD xs ys) | _, _ => False) := nr rfl
theorem kZw2_of {x y : D} {xs ys : List D} (e1 : seqB x = some xs) (e2 : seqB y = some ys) : kZw2 QL x y = QL (zipD xs ys) := by rw [kZw2_e, e1, e2]
end
/-! to be run -/
def zip2X (x y : D) : Res (List D) := match seqB x, seqB y with | some xs, some ys => .ok (zipD xs ys) | _, _ => .bad
instance {wa wb : Env → W D} [ha : RunE wa] [hb : RunE wb] : RunE (zip2I wa wb) where
  x := fun ρ => (ha.x ρ).bind fun a => (hb.x ρ).bind fun b => zip2X a b
  ok := fun ρ Q E h => by
    rw [post_bind] at h
    refine ha.ok _ _ _ (post_mono h (fun a q => ?_) fun _ e => e)
    rw [post_bind] at q
    refine hb.ok _ _ _ (post_mono q (fun b q => ?_) fun _ e => e)
    unfold zip2X at q
    cases e1 : seqB a with
    | none => rw [e1] at q; exact q.elim
    | some xs =>
      cases e2 : seqB b with
      | none => rw [e1, e2] at q; exact q.elim
      | some ys => rw [e1, e2] at q; exact q
end DL

set_option maxHeartbeats 4000000
namespace DL
open PySem PySem.Spec PyProof.Rows L2

/-! ### x is True, x is False, of flags -/
theorem op_isBl {X : Cx} : OpR X (compareOp .Is) (fun x y H Q => ∃ a b, x = .bl a ∧ y = .bl b ∧ Q (.bl (decide (a = b))) H) := by
  rintro pins s σ H _ _ v u Q I rx ry ⟨a, b, rfl, rfl, q⟩
  cases (show v = Value.bool a from rx)
  cases (show u = Value.bool b from ry)
  have out : ∀ c : Bool, c = decide (a = b) → Inv X pins σ H s ∧ RelV (.bl c) (.bool c) ∧ Q (.bl c) H := fun c e => ⟨I, rfl, e ▸ q⟩
  cases a <;> cases b <;> first
    | exact wpAny_is_self rfl ⟨_, _, out true rfl⟩
    | exact wpAny_is_other rfl Value.noConfusion ⟨_, _, out false rfl⟩
    | exact wpAny_is_other rfl (fun z => by cases z) ⟨_, _, out false rfl⟩
def isbW : D → D → W D := fun x y Q _ => match x, y with | .bl a, .bl b => Q (.bl (decide (a = b))) | _, _ => False
section
variable {G : Gx}
theorem ops_isBl {k1 k2 : Kd} : OpS G k1 k2 .v (fun x y H Q => ∃ a b, x = .bl a ∧ y = .bl b ∧ Q (.bl (decide (a = b))) H) isbW := by
  intro F H fh po x y v u hx hy Qd Ed Q hw hq
  cases x <;> try exact hw.elim
  cases y <;> try exact hw.elim
  rename_i a b
  have e1 := hx.at fh
  have e2 := hy.at fh
  cases e1
  cases e2
  exact ⟨a, b, rfl, rfl, fin0 (.inl rfl) fh po hq (d := .bl _) (fun _ => rfl) hw⟩
end
section
variable {Q : D → Prop} {E : Xn → Prop}
theorem o_isb {a b : Bool} : isbW (.bl a) (.bl b) Q E = Q (.bl (decide (a = b))) := nr rfl
end
end DL

set_option maxHeartbeats 0
namespace Prf
open PySem PySem.Spec PyProof.Rows L2
def topS (i : Nat) : Stmt := PySem.Challenge.pw_roundowned_k76_whole_stands_compared.main.body.getD i (.Pass ⟨0, 0, 0, 0⟩)
abbrev s_is_integer : Stmt := topS 6
def f_is_integer : He.DefD := ⟨("is_integer", none), "is_integer", "is_integer", defArgs s_is_integer, defBody s_is_integer, defScope s_is_integer, [], []⟩
abbrev s_is_within : Stmt := topS 7
def f_is_within : He.DefD := ⟨("is_within", none), "is_within", "is_within", defArgs s_is_within, defBody s_is_within, defScope s_is_within, [], []⟩
abbrev s_is_pair : Stmt := topS 8
def f_is_pair : He.DefD := ⟨("is_pair", none), "is_pair", "is_pair", defArgs s_is_pair, defBody s_is_pair, defScope s_is_pair, [], []⟩
abbrev s_are_rising : Stmt := topS 9
def f_are_rising : He.DefD := ⟨("are_rising", none), "are_rising", "are_rising", defArgs s_are_rising, defBody s_are_rising, defScope s_are_rising, [], []⟩
abbrev s_check_many : Stmt := topS 10
def f_check_many : He.DefD := ⟨("check_many", none), "check_many", "check_many", defArgs s_check_many, defBody s_check_many, defScope s_check_many, [], []⟩
abbrev s_is_holder_of : Stmt := topS 15
def f_is_holder_of : He.DefD := ⟨("is_holder_of", none), "is_holder_of", "is_holder_of", defArgs s_is_holder_of, defBody s_is_holder_of, defScope s_is_holder_of, [], []⟩
abbrev s_are_shares : Stmt := topS 16
def f_are_shares : He.DefD := ⟨("are_shares", none), "are_shares", "are_shares", defArgs s_are_shares, defBody s_are_shares, defScope s_are_shares, [], []⟩
abbrev s_check_match : Stmt := topS 19
def f_check_match : He.DefD := ⟨("check_match", none), "check_match", "check_match", defArgs s_check_match, defBody s_check_match, defScope s_check_match, [], []⟩
abbrev s_says_there : Stmt := topS 21
def f_says_there : He.DefD := ⟨("says_there", none), "says_there", "says_there", defArgs s_says_there, defBody s_says_there, defScope s_says_there, [], []⟩
abbrev s_changing_of : Stmt := topS 22
def f_changing_of : He.DefD := ⟨("changing_of", none), "changing_of", "changing_of", defArgs s_changing_of, defBody s_changing_of, defScope s_changing_of, [], []⟩
abbrev s_is_at_rest : Stmt := topS 23
def f_is_at_rest : He.DefD := ⟨("is_at_rest", none), "is_at_rest", "is_at_rest", defArgs s_is_at_rest, defBody s_is_at_rest, defScope s_is_at_rest, [], []⟩
abbrev s_all_flags : Stmt := topS 26
def f_all_flags : He.DefD := ⟨("all_flags", none), "all_flags", "all_flags", defArgs s_all_flags, defBody s_all_flags, defScope s_all_flags, [], []⟩
abbrev s_first_unlike_stand : Stmt := topS 27
def f_first_unlike_stand : He.DefD := ⟨("first_unlike_stand", none), "first_unlike_stand", "first_unlike_stand", defArgs s_first_unlike_stand, defBody s_first_unlike_stand, defScope s_first_unlike_stand, [], []⟩
abbrev s_check_stands : Stmt := topS 28
def f_check_stands : He.DefD := ⟨("check_stands", none), "check_stands", "check_stands", defArgs s_check_stands, defBody s_check_stands, defScope s_check_stands, [], []⟩
abbrev s_unlike_stand : Stmt := topS 29
def f_unlike_stand : He.DefD := ⟨("unlike_stand", none), "unlike_stand", "unlike_stand", defArgs s_unlike_stand, defBody s_unlike_stand, defScope s_unlike_stand, [], []⟩
abbrev s_same_stands : Stmt := topS 30
def f_same_stands : He.DefD := ⟨("same_stands", none), "same_stands", "same_stands", defArgs s_same_stands, defBody s_same_stands, defScope s_same_stands, [], []⟩
abbrev s__law_pool : Stmt := topS 32
def f__law_pool : He.DefD := ⟨("_law_pool", none), "_law_pool", "_law_pool", defArgs s__law_pool, defBody s__law_pool, defScope s__law_pool, [], []⟩
abbrev s__law_holder : Stmt := topS 34
def f__law_holder : He.DefD := ⟨("_law_holder", none), "_law_holder", "_law_holder", defArgs s__law_holder, defBody s__law_holder, defScope s__law_holder, [], []⟩
abbrev s__law_told : Stmt := topS 35
def f__law_told : He.DefD := ⟨("_law_told", none), "_law_told", "_law_told", defArgs s__law_told, defBody s__law_told, defScope s__law_told, [], []⟩
abbrev s_Web_keep : Stmt := inClass (topS 17) 1
def f_Web_keep : He.DefD := ⟨("Web", some "keep"), "keep", "Web.keep", defArgs s_Web_keep, defBody s_Web_keep, defScope s_Web_keep, [], []⟩
abbrev s_Web___init__ : Stmt := inClass (topS 17) 0
def f_Web___init__ : He.DefD := ⟨("Web", some "__init__"), "__init__", "Web.__init__", defArgs s_Web___init__, defBody s_Web___init__, defScope s_Web___init__, [], []⟩
abbrev s__law_web : Stmt := topS 36
def f__law_web : He.DefD := ⟨("_law_web", none), "_law_web", "_law_web", defArgs s__law_web, defBody s__law_web, defScope s__law_web, [], []⟩
abbrev s__law_says : Stmt := topS 37
def f__law_says : He.DefD := ⟨("_law_says", none), "_law_says", "_law_says", defArgs s__law_says, defBody s__law_says, defScope s__law_says, [], []⟩
abbrev s__law_boards : Stmt := topS 38
def f__law_boards : He.DefD := ⟨("_law_boards", none), "_law_boards", "_law_boards", defArgs s__law_boards, defBody s__law_boards, defScope s__law_boards, [], []⟩
abbrev s__law_rests : Stmt := topS 39
def f__law_rests : He.DefD := ⟨("_law_rests", none), "_law_rests", "_law_rests", defArgs s__law_rests, defBody s__law_rests, defScope s__law_rests, [], []⟩
abbrev s__law_unlike : Stmt := topS 40
def f__law_unlike : He.DefD := ⟨("_law_unlike", none), "_law_unlike", "_law_unlike", defArgs s__law_unlike, defBody s__law_unlike, defScope s__law_unlike, [], []⟩
abbrev s__law_word : Stmt := topS 41
def f__law_word : He.DefD := ⟨("_law_word", none), "_law_word", "_law_word", defArgs s__law_word, defBody s__law_word, defScope s__law_word, [], []⟩
abbrev s__law_draw : Stmt := topS 33
def f__law_draw : He.DefD := ⟨("_law_draw", none), "_law_draw", "_law_draw", defArgs s__law_draw, defBody s__law_draw, defScope s__law_draw, [], []⟩
abbrev s_law : Stmt := topS 42
def f_law : He.DefD := ⟨("law", none), "law", "law", defArgs s_law, defBody s_law, defScope s_law, [], []⟩
def fn : List He.DefD := [f_is_integer, f_is_within, f_is_pair, f_are_rising, f_check_many, f_is_holder_of, f_are_shares, f_check_match, f_says_there, f_changing_of, f_is_at_rest, f_all_flags, f_first_unlike_stand, f_check_stands, f_unlike_stand, f_same_stands, f__law_pool, f__law_holder, f__law_told, f_Web_keep, f_Web___init__, f__law_web, f__law_says, f__law_boards, f__law_rests, f__law_unlike, f__law_word, f__law_draw, f_law]
def fa : List He.Fa := [.glo "is_integer", .glo "is_within", .glo "is_pair", .glo "are_rising", .glo "check_many", .glo "is_holder_of", .glo "are_shares", .glo "check_match", .glo "says_there", .glo "changing_of", .glo "is_at_rest", .glo "all_flags", .glo "first_unlike_stand", .glo "check_stands", .glo "unlike_stand", .glo "same_stands", .glo "_law_pool", .glo "_law_holder", .glo "_law_told", .glo "_law_web", .glo "_law_says", .glo "_law_boards", .glo "_law_rests", .glo "_law_unlike", .glo "_law_word", .glo "_law_draw", .glo "law", .free "abs", .free "all", .free "bool", .free "enumerate", .free "int", .free "isinstance", .free "len", .free "list", .free "range", .free "sorted", .free "str", .free "sum", .free "tuple", .free "zip", .int "MOST_FOLK" 6, .int "MOST_HOUSES_likeness" 8, .int "MOST_HOUSES_webs" 12, .int "MOST_SHARES" 15, .glo "Web", .cls "Web", .noat "Web" "folk", .free "RawWeb", .noat "Web" "houses", .noat "Web" "kept_folk", .noat "Web" "kept_half", .noat "Web" "kept_houses", .mkr "Web", .meth "Web" "keep", .glo "NoMatch", .exc "NoMatch", .glo "HouseError", .glo "BadWeb", .exm "BadWeb" "HouseError" true, .exm "NoMatch" "HouseError" true, .glo "TooMany", .exm "TooMany" "HouseError" true, .exm "BadWeb" "NoMatch" false, .exm "NoMatch" "NoMatch" true, .exm "TooMany" "NoMatch" false, .exm "BadWeb" "TooMany" false, .exm "NoMatch" "TooMany" false, .exm "TooMany" "TooMany" true, .free "super"]
abbrev s_BadWeb___init__ : Stmt := inClass (topS 2) 0
abbrev s_TooMany___init__ : Stmt := inClass (topS 4) 0
abbrev R : PySem.W.OpenRow := PySem.W.OpenLaw.row PySem.Challenge.rw_roundowned_k76_whole_stands_compared
def exK (K : PySem.W.Frag) : Bool := DL.supB K R.prog.main.file "BadWeb" "part" "BadWeb.__init__" && (DL.supB K R.prog.main.file "TooMany" "most" "TooMany.__init__")
def sxs : List PySem.Str := ["BadWeb", "TooMany"]
def svs : List DL.SupV := [DL.supV "BadWeb.__init__" (defArgs s_BadWeb___init__) (defBody s_BadWeb___init__) (defScope s_BadWeb___init__), DL.supV "TooMany.__init__" (defArgs s_TooMany___init__) (defBody s_TooMany___init__) (defScope s_TooMany___init__)]
abbrev hk : PySem.W.Hook := DL.hookS 5 fa fn exK sxs svs
def ob (s : PySem.W.SharedT) : DL.AlS := DL.obsS 5 fa fn exK sxs (HandSHeadRun.getT s)
theorem ob_eq (s : PySem.W.SharedT) : ob s = hk.obs s.abs := DL.obsS_eq (HandSHeadRun.getT_eq s)
def nms0 : List PySem.Str := ["__name__", "HouseError", "BadWeb", "NoMatch", "TooMany", "is_integer", "is_within", "is_pair", "are_rising", "check_many", "MOST_FOLK", "MOST_HOUSES_webs", "MOST_SHARES", "is_holder_of", "are_shares"]
def nms1 : List PySem.Str := ["Web", "check_match", "says_there", "changing_of", "is_at_rest", "MOST_HOUSES_likeness", "all_flags", "first_unlike_stand", "check_stands", "unlike_stand", "same_stands", "_law_pool", "_law_draw", "_law_holder", "_law_told"]
def nms2 : List PySem.Str := ["_law_web", "_law_says", "_law_boards", "_law_rests", "_law_unlike", "_law_word"]
def nms : List PySem.Str := nms0 ++ nms1 ++ nms2
theorem run (w : World) : HandSHeadRun.RunEq R (PySem.W.view R.prog [42]) hk ob 6000 nms w := by
  intro os
  kernel_rfl
end Prf

set_option maxHeartbeats 4000000
namespace Prf
open PySem PySem.Spec PyProof.Rows L2 DL
abbrev m__law_draw := drawW
def XS : List Str := ["BadWeb", "NoMatch", "TooMany"]
structure Txt (K : PySem.W.Frag) (mg : Str → Option Value) : Prop where
  f_abs : mg "abs" = none
  f_all : mg "all" = none
  f_bool : mg "bool" = none
  f_enumerate : mg "enumerate" = none
  f_int : mg "int" = none
  f_isinstance : mg "isinstance" = none
  f_len : mg "len" = none
  f_list : mg "list" = none
  f_range : mg "range" = none
  f_sorted : mg "sorted" = none
  f_str : mg "str" = none
  f_sum : mg "sum" = none
  f_tuple : mg "tuple" = none
  f_zip : mg "zip" = none
  i_MOST_FOLK : ∃ t, mg "MOST_FOLK" = some (.int 6 t)
  i_MOST_HOUSES_likeness : ∃ t, mg "MOST_HOUSES_likeness" = some (.int 8 t)
  i_MOST_HOUSES_webs : ∃ t, mg "MOST_HOUSES_webs" = some (.int 12 t)
  i_MOST_SHARES : ∃ t, mg "MOST_SHARES" = some (.int 15 t)
  fl_folk : ∀ c ∈ (["Web", "RawWeb"] : List Str), FldOk K mg c "folk"
  fl_houses : ∀ c ∈ (["Web", "RawWeb"] : List Str), FldOk K mg c "houses"
  fl_kept_folk : ∀ c ∈ (["Web", "RawWeb"] : List Str), FldOk K mg c "kept_folk"
  fl_kept_half : ∀ c ∈ (["Web", "RawWeb"] : List Str), FldOk K mg c "kept_half"
  fl_kept_houses : ∀ c ∈ (["Web", "RawWeb"] : List Str), FldOk K mg c "kept_houses"
  fx_TooMany_most : FldX K mg "TooMany" "most"
  x_NoMatch : ExcOk K mg "NoMatch"
  cl_HouseError : ClOk K mg XS "HouseError" ["BadWeb", "NoMatch", "TooMany"]
  cl_NoMatch : ClOk K mg XS "NoMatch" ["NoMatch"]
  cl_TooMany : ClOk K mg XS "TooMany" ["TooMany"]

def N_is_integer : List Str := ["thing"]
theorem sc_is_integer : FnScope N_is_integer ["thing"] (defScope s_is_integer) := ⟨rfl, rfl, rfl, by decide +kernel, rfl, by decide +kernel, by decide +kernel⟩
def w_is_integer : DL.Env → W Fl :=
  (retW (andV (unW (isiW "int") (varW 0)) (notV (unW (isiW "bool") (varW 0)))))
def m_is_integer : List D → W D := runW 1 w_is_integer
theorem d_is_integer {P : Program} {w : World} {K : PySem.W.Frag} {mg : Str → Option Value} {base : Heap} (T : Txt K mg) (D_ : DefOk K mg "is_integer" s_is_integer) : FnD P w K mg base "is_integer" 1 [.v] .v m_is_integer := by
  refine fn_d D_ sc_is_integer 1 rfl rfl (fun _ _ _ _ _ _ us hl => match us, hl with | [_], _ => rfl) (by decide) rfl fun f cdv A outer s pl F H E hr => ?_
  have tk := L2.takes_of (X := cxOf (L2.CX P w) P w K mg base N_is_integer "is_integer" (defScope s_is_integer) f cdv A outer s H E) rfl rfl rfl rfl
  have nd := sc_is_integer.nd
  exact ⟨[.v], (dss_one (ds_ret (de_and (de_isi sub_int (by rfl) T.f_isinstance (by rfl) T.f_int (eV 0)) (de_one (de_not (de_isi sub_bool (by rfl) T.f_isinstance (by rfl) T.f_bool (eV 0)))))))⟩

def N_is_within : List Str := ["thing", "least", "most"]
theorem sc_is_within : FnScope N_is_within ["thing", "least", "most"] (defScope s_is_within) := ⟨rfl, rfl, rfl, by decide +kernel, rfl, by decide +kernel, by decide +kernel⟩
def w_is_within : DL.Env → W Fl :=
  (retW (andV (appW m_is_integer (consW (varW 0) nilW)) (chainW leW leW (varW 1) (varW 0) (varW 2))))
def m_is_within : List D → W D := runW 3 w_is_within
theorem d_is_within {P : Program} {w : World} {K : PySem.W.Frag} {mg : Str → Option Value} {base : Heap} (T : Txt K mg) (D_ : DefOk K mg "is_within" s_is_within) (F_is_integer : FnD P w K mg base "is_integer" 1 [.v] .v m_is_integer) : FnD P w K mg base "is_within" 2 [.v, .v, .v] .v m_is_within := by
  refine fn_d D_ sc_is_within 3 rfl rfl (fun _ _ _ _ _ _ us hl => match us, hl with | [_, _, _], _ => rfl) (by decide) rfl fun f cdv A outer s pl F H E hr => ?_
  have tk := L2.takes_of (X := cxOf (L2.CX P w) P w K mg base N_is_within "is_within" (defScope s_is_within) f cdv A outer s H E) rfl rfl rfl rfl
  have nd := sc_is_within.nd
  exact ⟨[.v, .v, .v], (dss_one (ds_ret (de_and (de_call F_is_integer (hr.mono (by decide)) (by rfl) tk (da_cons (k := .v) (eV 0) da_nil)) (de_one (de_chain op_le (ops_cmp (fun i j => decide (i ≤ j))) op_le (ops_cmp (fun i j => decide (i ≤ j))) (eV 1) (eV 0) (eV 2))))))⟩

def N_is_pair : List Str := ["thing"]
theorem sc_is_pair : FnScope N_is_pair ["thing"] (defScope s_is_pair) := ⟨rfl, rfl, rfl, by decide +kernel, rfl, by decide +kernel, by decide +kernel⟩
def w_is_pair : DL.Env → W Fl :=
  (retW (andV (unW (isiW "tuple") (varW 0)) (binW eqW (unW lenW (varW 0)) (cW (.int 2)))))
def m_is_pair : List D → W D := runW 1 w_is_pair
theorem d_is_pair {P : Program} {w : World} {K : PySem.W.Frag} {mg : Str → Option Value} {base : Heap} (T : Txt K mg) (D_ : DefOk K mg "is_pair" s_is_pair) : FnD P w K mg base "is_pair" 1 [.v] .v m_is_pair := by
  refine fn_d D_ sc_is_pair 1 rfl rfl (fun _ _ _ _ _ _ us hl => match us, hl with | [_], _ => rfl) (by decide) rfl fun f cdv A outer s pl F H E hr => ?_
  have tk := L2.takes_of (X := cxOf (L2.CX P w) P w K mg base N_is_pair "is_pair" (defScope s_is_pair) f cdv A outer s H E) rfl rfl rfl rfl
  have nd := sc_is_pair.nd
  exact ⟨[.v], (dss_one (ds_ret (de_and (de_isi sub_tuple (by rfl) T.f_isinstance (by rfl) T.f_tuple (eV 0)) (de_one (de_cmp (op_eqD (hu64 hr)) ops_eq (nomark _) (de_b1 call_lenA uns_len (by rfl) T.f_len (eV 0)) de_int)))))⟩

def N_are_rising : List Str := ["things", "at"]
theorem sc_are_rising : FnScope N_are_rising ["things"] (defScope s_are_rising) := ⟨rfl, rfl, rfl, by decide +kernel, rfl, by decide +kernel, by decide +kernel⟩
def w_are_rising : DL.Env → W Fl :=
  (retW (unW allW (compW [1] (rangeI2 (cW (.int 1)) (unW lenW (varW 0))) (tName 1) yesW (binW (ordW fun x y => (fun d e => !PySem.W.dataLt e d) (py x) (py y)) (binW ixW (varW 0) (binW subW (varW 1) (cW (.int 1)))) (binW ixW (varW 0) (varW 1))))))
def m_are_rising : List D → W D := runW 2 w_are_rising
theorem d_are_rising {P : Program} {w : World} {K : PySem.W.Frag} {mg : Str → Option Value} {base : Heap} (T : Txt K mg) (D_ : DefOk K mg "are_rising" s_are_rising) : FnD P w K mg base "are_rising" 1 [.v] .v m_are_rising := by
  refine fn_d D_ sc_are_rising 2 rfl rfl (fun _ _ _ _ _ _ us hl => match us, hl with | [_], _ => rfl) (by decide) rfl fun f cdv A outer s pl F H E hr => ?_
  have tk := L2.takes_of (X := cxOf (L2.CX P w) P w K mg base N_are_rising "are_rising" (defScope s_are_rising) f cdv A outer s H E) rfl rfl rfl rfl
  have nd := sc_are_rising.nd
  exact ⟨[.v, .v], (dss_one (ds_ret (de_b1 (cr_all (by rfl)) uns_all (by rfl) T.f_all ((de_lc [("at", 1)] (by rfl) nd (di_range2 (by rfl) T.f_range de_int (de_b1 call_lenA uns_len (by rfl) T.f_len (eV 0))) (blkOk_by (by kernel_rfl)) (fun _ _ _ _ _ => (gN 1 nd)) (fun _ _ _ _ _ => dts_nil) (fun _ _ _ _ _ => (de_cmp (op_leO (hu64 hr)) (ops_ord (fun d e => !PySem.W.dataLt e d)) (nomark _) (de_ix (ix_any (hu1 hr)) ops_ix (eV 0) (de_bin op_sub ops_sub (eV 1) de_int) (fun _ _ => (by rfl))) (de_ix (ix_any (hu1 hr)) ops_ix (eV 0) (eV 1) (fun _ _ => (by rfl))))) (by decide))).v_of_n)))⟩

def N_check_many : List Str := ["number", "most"]
theorem sc_check_many : FnScope N_check_many ["number", "most"] (defScope s_check_many) := ⟨rfl, rfl, rfl, by decide +kernel, rfl, by decide +kernel, by decide +kernel⟩
def w_check_many : DL.Env → W Fl :=
  (iteW (blW (binW gtW (varW 0) (varW 1))) (raise1W "TooMany" "most" (varW 1)) nextW)
def m_check_many : List D → W D := runW 2 w_check_many
theorem d_check_many {P : Program} {w : World} {K : PySem.W.Frag} {mg : Str → Option Value} {base : Heap} (T : Txt K mg) (D_ : DefOk K mg "check_many" s_check_many) (XX_TooMany : ExcX P w K mg base "TooMany" "most") : FnD P w K mg base "check_many" 3 [.v, .v] .v m_check_many := by
  refine fn_d D_ sc_check_many 2 rfl rfl (fun _ _ _ _ _ _ us hl => match us, hl with | [_, _], _ => rfl) (by decide) rfl fun f cdv A outer s pl F H E hr => ?_
  have tk := L2.takes_of (X := cxOf (L2.CX P w) P w K mg base N_check_many "check_many" (defScope s_check_many) f cdv A outer s H E) rfl rfl rfl rfl
  have nd := sc_check_many.nd
  exact ⟨[.v, .v], (dss_one (ds_if (dt_cmp op_gt (ops_cmp (fun i j => decide (j < i))) (nomark _) (eV 0) (eV 1)) (dss_one (ds_raise1 XX_TooMany (hr.mono (by decide)) (by rfl) (by rfl) tk (eV 1))) (dssM [.v, .v] dss_nil)))⟩

def N_is_holder_of : List Str := ["thing", "folk", "houses"]
theorem sc_is_holder_of : FnScope N_is_holder_of ["thing", "folk", "houses"] (defScope s_is_holder_of) := ⟨rfl, rfl, rfl, by decide +kernel, rfl, by decide +kernel, by decide +kernel⟩
def w_is_holder_of : DL.Env → W Fl :=
  (seqW (iteW (orT (notT (blW (appW m_is_pair (consW (varW 0) nilW)))) (notT (blW (unW (isiW "str") (binW ixW (varW 0) (cW (.int 0))))))) (retW (cW (.bl false))) nextW)
  (seqW (iteW (blW (binW eqW (binW ixW (varW 0) (cW (.int 0))) (cW (.str "f")))) (retW (appW m_is_within (consW (binW ixW (varW 0) (cW (.int 1))) (consW (cW (.int 0)) (consW (binW subW (varW 1) (cW (.int 1))) nilW))))) nextW)
  (retW (andV (binW eqW (binW ixW (varW 0) (cW (.int 0))) (cW (.str "h"))) (appW m_is_within (consW (binW ixW (varW 0) (cW (.int 1))) (consW (cW (.int 0)) (consW (binW subW (varW 2) (cW (.int 1))) nilW))))))))
def m_is_holder_of : List D → W D := runW 3 w_is_holder_of
theorem d_is_holder_of {P : Program} {w : World} {K : PySem.W.Frag} {mg : Str → Option Value} {base : Heap} (T : Txt K mg) (D_ : DefOk K mg "is_holder_of" s_is_holder_of) (F_is_pair : FnD P w K mg base "is_pair" 1 [.v] .v m_is_pair) (F_is_within : FnD P w K mg base "is_within" 2 [.v, .v, .v] .v m_is_within) : FnD P w K mg base "is_holder_of" 3 [.v, .v, .v] .v m_is_holder_of := by
  refine fn_d D_ sc_is_holder_of 3 rfl rfl (fun _ _ _ _ _ _ us hl => match us, hl with | [_, _, _], _ => rfl) (by decide) rfl fun f cdv A outer s pl F H E hr => ?_
  have tk := L2.takes_of (X := cxOf (L2.CX P w) P w K mg base N_is_holder_of "is_holder_of" (defScope s_is_holder_of) f cdv A outer s H E) rfl rfl rfl rfl
  have nd := sc_is_holder_of.nd
  exact ⟨[.v, .v, .v], (dss_cons (ds_if (dw_or (dt_not (dt_val (de_call F_is_pair (hr.mono (by decide)) (by rfl) tk (da_cons (k := .v) (eV 0) da_nil)))) (dw_or1 (dt_not (dt_val (de_isi sub_str (by rfl) T.f_isinstance (by rfl) T.f_str (de_ix (ix_any (hu1 hr)) ops_ix (eV 0) de_int (fun _ _ => (by rfl)))))))).t (dss_one (ds_ret de_bl)) (dssM [.v, .v, .v] dss_nil))
    (dss_cons (ds_if (dt_cmp (op_eqD (hu64 hr)) ops_eq (nomark _) (de_ix (ix_any (hu1 hr)) ops_ix (eV 0) de_int (fun _ _ => (by rfl))) de_str) (dss_one (ds_ret (de_call F_is_within (hr.mono (by decide)) (by rfl) tk (da_cons (k := .v) (de_ix (ix_any (hu1 hr)) ops_ix (eV 0) de_int (fun _ _ => (by rfl))) (da_cons (k := .v) de_int (da_cons (k := .v) (de_bin op_sub ops_sub (eV 1) de_int) da_nil)))))) (dssM [.v, .v, .v] dss_nil))
    (dss_one (ds_ret (de_and (de_cmp (op_eqD (hu64 hr)) ops_eq (nomark _) (de_ix (ix_any (hu1 hr)) ops_ix (eV 0) de_int (fun _ _ => (by rfl))) de_str) (de_one (de_call F_is_within (hr.mono (by decide)) (by rfl) tk (da_cons (k := .v) (de_ix (ix_any (hu1 hr)) ops_ix (eV 0) de_int (fun _ _ => (by rfl))) (da_cons (k := .v) de_int (da_cons (k := .v) (de_bin op_sub ops_sub (eV 2) de_int) da_nil))))))))))⟩

def N_are_shares : List Str := ["thing", "folk", "houses", "holder"]
theorem sc_are_shares : FnScope N_are_shares ["thing", "folk", "houses"] (defScope s_are_shares) := ⟨rfl, rfl, rfl, by decide +kernel, rfl, by decide +kernel, by decide +kernel⟩
def w_are_shares : DL.Env → W Fl :=
  (seqW (iteW (orT (notT (blW (unW (isiW "tuple") (varW 0)))) (orT (notT (blW (chainW leW leW (cW (.int 1)) (unW lenW (varW 0)) (cW (.int 15))))) (blW (binW eqW (binW modW (unW lenW (varW 0)) (cW (.int 2))) (cW (.int 0)))))) (retW (cW (.bl false))) nextW)
  (retW (andV (unW allW (compW [3] (seqI (varW 0)) (tName 3) yesW (appW m_is_holder_of (consW (varW 3) (consW (varW 1) (consW (varW 2) nilW)))))) (appW m_are_rising (consW (varW 0) nilW)))))
def m_are_shares : List D → W D := runW 4 w_are_shares
theorem d_are_shares {P : Program} {w : World} {K : PySem.W.Frag} {mg : Str → Option Value} {base : Heap} (T : Txt K mg) (D_ : DefOk K mg "are_shares" s_are_shares) (F_are_rising : FnD P w K mg base "are_rising" 1 [.v] .v m_are_rising) (F_is_holder_of : FnD P w K mg base "is_holder_of" 3 [.v, .v, .v] .v m_is_holder_of) : FnD P w K mg base "are_shares" 4 [.v, .v, .v] .v m_are_shares := by
  refine fn_d D_ sc_are_shares 4 rfl rfl (fun _ _ _ _ _ _ us hl => match us, hl with | [_, _, _], _ => rfl) (by decide) rfl fun f cdv A outer s pl F H E hr => ?_
  have tk := L2.takes_of (X := cxOf (L2.CX P w) P w K mg base N_are_shares "are_shares" (defScope s_are_shares) f cdv A outer s H E) rfl rfl rfl rfl
  have nd := sc_are_shares.nd
  exact ⟨[.v, .v, .v, .v], (dss_cons (ds_if (dw_or (dt_not (dt_val (de_isi sub_tuple (by rfl) T.f_isinstance (by rfl) T.f_tuple (eV 0)))) (dw_or (dt_not (dt_chain op_le (ops_cmp (fun i j => decide (i ≤ j))) op_le (ops_cmp (fun i j => decide (i ≤ j))) de_int (de_b1 call_lenA uns_len (by rfl) T.f_len (eV 0)) (de_gint (by rfl) T.i_MOST_SHARES))) (dw_or1 (dt_cmp (op_eqD (hu64 hr)) ops_eq (nomark _) (de_bin op_mod ops_mod (de_b1 call_lenA uns_len (by rfl) T.f_len (eV 0)) de_int) de_int)))).t (dss_one (ds_ret de_bl)) (dssM [.v, .v, .v, .v] dss_nil))
    (dss_one (ds_ret (de_and (de_b1 (cr_all (by rfl)) uns_all (by rfl) T.f_all ((de_lc [("holder", 3)] (by rfl) nd (di_seq (eV 0)) (blkOk_by (by kernel_rfl)) (fun _ _ _ _ _ => (gN 3 nd)) (fun _ _ _ _ _ => dts_nil) (fun _ _ _ _ _ => (de_call F_is_holder_of (hr.mono (by decide)) (by rfl) takes0 (da_cons (k := .v) (eV 3) (da_cons (k := .v) (eV 1) (da_cons (k := .v) (eV 2) da_nil))))) (by decide))).v_of_n) (de_one (de_call F_are_rising (hr.mono (by decide)) (by rfl) tk (da_cons (k := .v) (eV 0) da_nil)))))))⟩

def N_check_match : List Str := ["one", "other"]
theorem sc_check_match : FnScope N_check_match ["one", "other"] (defScope s_check_match) := ⟨rfl, rfl, rfl, by decide +kernel, rfl, by decide +kernel, by decide +kernel⟩
def w_check_match : DL.Env → W Fl :=
  (iteW (blW (binW neW (unW (fldW ["Web", "RawWeb"] "folk") (varW 0)) (unW (fldW ["Web", "RawWeb"] "folk") (varW 1)))) (raiseW "NoMatch") nextW)
def m_check_match : List D → W D := runW 2 w_check_match
theorem d_check_match {P : Program} {w : World} {K : PySem.W.Frag} {mg : Str → Option Value} {base : Heap} (T : Txt K mg) (D_ : DefOk K mg "check_match" s_check_match) : FnD P w K mg base "check_match" 1 [.v, .v] .v m_check_match := by
  refine fn_d D_ sc_check_match 2 rfl rfl (fun _ _ _ _ _ _ us hl => match us, hl with | [_, _], _ => rfl) (by decide) rfl fun f cdv A outer s pl F H E hr => ?_
  have tk := L2.takes_of (X := cxOf (L2.CX P w) P w K mg base N_check_match "check_match" (defScope s_check_match) f cdv A outer s H E) rfl rfl rfl rfl
  have nd := sc_check_match.nd
  exact ⟨[.v, .v], (dss_one (ds_if (dt_cmp (op_neD (hu64 hr)) ops_ne (nomark _) (de_fld ["Web", "RawWeb"] T.fl_folk (eV 0)) (de_fld ["Web", "RawWeb"] T.fl_folk (eV 1))) (dss_one (ds_raise0 T.x_NoMatch (by rfl) (by rfl) tk)) (dssM [.v, .v] dss_nil)))⟩

def N_says_there : List Str := ["web", "vote", "boards", "house", "many", "flag", "shares", "owner"]
theorem sc_says_there : FnScope N_says_there ["web", "vote", "boards", "house"] (defScope s_says_there) := ⟨rfl, rfl, rfl, by decide +kernel, rfl, by decide +kernel, by decide +kernel⟩
def w_says_there : DL.Env → W Fl :=
  (seqW (asgW 4 (unW sumW (compW [5, 6] (zip2I (varW 1) (binW ixW (unW (fldW ["Web", "RawWeb"] "kept_folk") (varW 0)) (varW 3))) (tTup' (tCons' (tName 5) (tCons' (tName 6) tNil'))) (trW (varW 5)) (varW 6))))
  (seqW (augW 4 (fun x y Q _ => match x, y with | .int a, .int b => Q (.int (a + b)) | _, _ => False) (unW sumW (compW [7, 6] (seqI (binW ixW (unW (fldW ["Web", "RawWeb"] "kept_houses") (varW 0)) (varW 3))) (tTup' (tCons' (tName 7) (tCons' (tName 6) tNil'))) (trW (binW ixW (varW 2) (varW 7))) (varW 6))))
  (retW (binW geW (varW 4) (binW ixW (unW (fldW ["Web", "RawWeb"] "kept_half") (varW 0)) (varW 3))))))
def m_says_there : List D → W D := runW 8 w_says_there
theorem d_says_there {P : Program} {w : World} {K : PySem.W.Frag} {mg : Str → Option Value} {base : Heap} (T : Txt K mg) (D_ : DefOk K mg "says_there" s_says_there) : FnD P w K mg base "says_there" 1 [.v, .v, .v, .v] .v m_says_there := by
  refine fn_d D_ sc_says_there 8 rfl rfl (fun _ _ _ _ _ _ us hl => match us, hl with | [_, _, _, _], _ => rfl) (by decide) rfl fun f cdv A outer s pl F H E hr => ?_
  have tk := L2.takes_of (X := cxOf (L2.CX P w) P w K mg base N_says_there "says_there" (defScope s_says_there) f cdv A outer s H E) rfl rfl rfl rfl
  have nd := sc_says_there.nd
  exact ⟨[.v, .v, .v, .v, .v, .v, .v, .v], (dss_cons (dsM [.v, .v, .v, .v, .v, .v, .v, .v] (sV 4 nd (de_b1 (cr_sum (by rfl)) uns_sum (by rfl) T.f_sum ((de_lc [("flag", 5), ("shares", 6)] (by rfl) nd (di_zip2 (by rfl) T.f_zip (eV 1) (de_ix (ix_any (hu1 hr)) ops_ix (de_fld ["Web", "RawWeb"] T.fl_kept_folk (eV 0)) (eV 3) (fun _ _ => (by rfl)))) (blkOk_by (by kernel_rfl)) (fun _ _ _ _ _ => (gT (dgs_cons (gN 5 nd) (dgs_cons (gN 6 nd) dgs_nil)) (tl1 (tl1 tl0)))) (fun _ _ _ _ _ => (dts_one (dt_tr (eV 5)))) (fun _ _ _ _ _ => (eV 6)) (by decide))).v_of_n)))
    (dss_cons (dsM [.v, .v, .v, .v, .v, .v, .v, .v] (ds_augAdd (i := 4) nd (by rfl) (.inl (by rfl)) (de_b1 (cr_sum (by rfl)) uns_sum (by rfl) T.f_sum ((de_lc [("owner", 7), ("shares", 6)] (by rfl) nd (di_seq (de_ix (ix_any (hu1 hr)) ops_ix (de_fld ["Web", "RawWeb"] T.fl_kept_houses (eV 0)) (eV 3) (fun _ _ => (by rfl)))) (blkOk_by (by kernel_rfl)) (fun _ _ _ _ _ => (gT (dgs_cons (gN 7 nd) (dgs_cons (gN 6 nd) dgs_nil)) (tl1 (tl1 tl0)))) (fun _ _ _ _ _ => (dts_one (dt_tr (de_ix (ix_any (hu1 hr)) ops_ix (eV 2) (eV 7) (fun _ _ => (by rfl)))))) (fun _ _ _ _ _ => (eV 6)) (by decide))).v_of_n) (by rfl)))
    (dss_one (ds_ret (de_cmp op_ge (ops_cmp (fun i j => decide (j ≤ i))) (nomark _) (eV 4) (de_ix (ix_any (hu1 hr)) ops_ix (de_fld ["Web", "RawWeb"] T.fl_kept_half (eV 0)) (eV 3) (fun _ _ => (by rfl))))))))⟩

def N_changing_of : List Str := ["web", "vote", "boards", "houses", "house"]
theorem sc_changing_of : FnScope N_changing_of ["web", "vote", "boards"] (defScope s_changing_of) := ⟨rfl, rfl, rfl, by decide +kernel, rfl, by decide +kernel, by decide +kernel⟩
def w_changing_of : DL.Env → W Fl :=
  (seqW (asgW 3 (unW rngV1W (unW lenW (varW 2))))
  (retW (unW (tupOfW .v) (compW [4] (rngHI (varW 3)) (tName 4) (blW (binW neW (appW m_says_there (consW (varW 0) (consW (varW 1) (consW (varW 2) (consW (varW 4) nilW))))) (binW ixW (varW 2) (varW 4)))) (varW 4)))))
def m_changing_of : List D → W D := runW 5 w_changing_of
theorem d_changing_of {P : Program} {w : World} {K : PySem.W.Frag} {mg : Str → Option Value} {base : Heap} (T : Txt K mg) (D_ : DefOk K mg "changing_of" s_changing_of) (F_says_there : FnD P w K mg base "says_there" 1 [.v, .v, .v, .v] .v m_says_there) : FnD P w K mg base "changing_of" 2 [.v, .v, .v] .v m_changing_of := by
  refine fn_d D_ sc_changing_of 5 rfl rfl (fun _ _ _ _ _ _ us hl => match us, hl with | [_, _, _], _ => rfl) (by decide) rfl fun f cdv A outer s pl F H E hr => ?_
  have tk := L2.takes_of (X := cxOf (L2.CX P w) P w K mg base N_changing_of "changing_of" (defScope s_changing_of) f cdv A outer s H E) rfl rfl rfl rfl
  have nd := sc_changing_of.nd
  exact ⟨[.v, .v, .v, .v, .v], (dss_cons (dsM [.v, .v, .v, .v, .v] (sV 3 nd (de_t1 cr_range1 uns_rng1 (by rfl) T.f_range (de_b1 call_lenA uns_len (by rfl) T.f_len (eV 2)))))
    (dss_one (ds_ret (de_t1 call_tuple_of uns_tup (by rfl) T.f_tuple ((de_lc [("house", 4)] (by rfl) nd (di_rngH (eV 3)) (blkOk_by (by kernel_rfl)) (fun _ _ _ _ _ => (gN 4 nd)) (fun _ _ _ _ _ => (dts_one (dt_cmp (op_neD (hu64 hr)) ops_ne (nomark _) (de_call F_says_there (hr.mono (by decide)) (by rfl) takes0 (da_cons (k := .v) (eV 0) (da_cons (k := .v) (eV 1) (da_cons (k := .v) (eV 2) (da_cons (k := .v) (eV 4) da_nil))))) (de_ix (ix_any (hu1 hr)) ops_ix (eV 2) (eV 4) (fun _ _ => (by rfl)))))) (fun _ _ _ _ _ => (eV 4)) (by decide))).v_of_n))))⟩

def N_is_at_rest : List Str := ["web", "vote", "boards"]
theorem sc_is_at_rest : FnScope N_is_at_rest ["web", "vote", "boards"] (defScope s_is_at_rest) := ⟨rfl, rfl, rfl, by decide +kernel, rfl, by decide +kernel, by decide +kernel⟩
def w_is_at_rest : DL.Env → W Fl :=
  (retW (binW eqW (unW lenW (appW m_changing_of (consW (varW 0) (consW (varW 1) (consW (varW 2) nilW))))) (cW (.int 0))))
def m_is_at_rest : List D → W D := runW 3 w_is_at_rest
theorem d_is_at_rest {P : Program} {w : World} {K : PySem.W.Frag} {mg : Str → Option Value} {base : Heap} (T : Txt K mg) (D_ : DefOk K mg "is_at_rest" s_is_at_rest) (F_changing_of : FnD P w K mg base "changing_of" 2 [.v, .v, .v] .v m_changing_of) : FnD P w K mg base "is_at_rest" 3 [.v, .v, .v] .v m_is_at_rest := by
  refine fn_d D_ sc_is_at_rest 3 rfl rfl (fun _ _ _ _ _ _ us hl => match us, hl with | [_, _, _], _ => rfl) (by decide) rfl fun f cdv A outer s pl F H E hr => ?_
  have tk := L2.takes_of (X := cxOf (L2.CX P w) P w K mg base N_is_at_rest "is_at_rest" (defScope s_is_at_rest) f cdv A outer s H E) rfl rfl rfl rfl
  have nd := sc_is_at_rest.nd
  exact ⟨[.v, .v, .v], (dss_one (ds_ret (de_cmp (op_eqD (hu64 hr)) ops_eq (nomark _) (de_b1 call_lenA uns_len (by rfl) T.f_len (de_call F_changing_of (hr.mono (by decide)) (by rfl) tk (da_cons (k := .v) (eV 0) (da_cons (k := .v) (eV 1) (da_cons (k := .v) (eV 2) da_nil))))) de_int)))⟩

def N_all_flags : List Str := ["many", "found", "turn", "later", "flags"]
theorem sc_all_flags : FnScope N_all_flags ["many"] (defScope s_all_flags) := ⟨rfl, rfl, rfl, by decide +kernel, rfl, by decide +kernel, by decide +kernel⟩
def w_all_flags : DL.Env → W Fl :=
  (seqW (asgW 1 (lstW (consW (tupW nilW) nilW)))
  (seqW (forW (rangeI1 (varW 0)) (tName 2) (seqW (asgW 3 (cW (.lst [])))
  (seqW (forW (seqI (varW 1)) (tName 4) (extendW 3 (lstW (consW (binW addW (varW 4) (tupW (consW (cW (.bl false)) nilW))) (consW (binW addW (varW 4) (tupW (consW (cW (.bl true)) nilW))) nilW)))))
  (asgW 1 (varW 3)))))
  (retW (varW 1))))
def m_all_flags : List D → W D := runW 5 w_all_flags
theorem d_all_flags {P : Program} {w : World} {K : PySem.W.Frag} {mg : Str → Option Value} {base : Heap} (T : Txt K mg) (D_ : DefOk K mg "all_flags" s_all_flags) : FnD P w K mg base "all_flags" 1 [.v] .v m_all_flags := by
  refine fn_d D_ sc_all_flags 5 rfl rfl (fun _ _ _ _ _ _ us hl => match us, hl with | [_], _ => rfl) (by decide) rfl fun f cdv A outer s pl F H E hr => ?_
  have tk := L2.takes_of (X := cxOf (L2.CX P w) P w K mg base N_all_flags "all_flags" (defScope s_all_flags) f cdv A outer s H E) rfl rfl rfl rfl
  have nd := sc_all_flags.nd
  exact ⟨[.v, .v, .v, .v, .v], (dss_cons (dsM [.v, .v, .v, .v, .v] (sV 1 nd ((de_lst (da_cons (k := .v) (de_tup da_nil) da_nil))).v_of_n))
    (dss_cons (sFor (L2.passes_of (by rfl)) (di_range1 (by rfl) T.f_range (eV 0)) (gN 2 nd) htN (dssM [.v, .v, .v, .v, .v] (dss_cons (dsM [.v, .v, .v, .o 1, .v] (sO 3 nd (de_nil 0)))
    (dss_cons (sFor (L2.passes_of (by rfl)) (di_seq (eV 1)) (gN 4 nd) htN (dssM [.v, .v, .v, .o 1, .v] (dss_one (ds_extend (i := 3) (by rfl) (by rfl) (.inl (by rfl)) ((de_lst (da_cons (k := .v) (de_bin op_addA ops_add (eV 4) (de_tup (da_cons (k := .v) de_bl da_nil))) (da_cons (k := .v) (de_bin op_addA ops_add (eV 4) (de_tup (da_cons (k := .v) de_bl da_nil))) da_nil)))).v_of_n))))
    (dss_pre 3 (dss_one (sV 1 nd (eV 3))) (by rfl))))))
    (dss_one (ds_ret (eV 1)))))⟩

def N_first_unlike_stand : List Str := ["one", "other", "vote", "boards"]
theorem sc_first_unlike_stand : FnScope N_first_unlike_stand ["one", "other"] (defScope s_first_unlike_stand) := ⟨rfl, rfl, rfl, by decide +kernel, rfl, by decide +kernel, by decide +kernel⟩
def w_first_unlike_stand : DL.Env → W Fl :=
  (seqW (forW (seqI (appW m_all_flags (consW (unW (fldW ["Web", "RawWeb"] "folk") (varW 0)) nilW))) (tName 2) (forW (seqI (appW m_all_flags (consW (unW lenW (unW (fldW ["Web", "RawWeb"] "houses") (varW 0))) nilW))) (tName 3) (iteW (blW (binW neW (appW m_is_at_rest (consW (varW 0) (consW (varW 2) (consW (varW 3) nilW)))) (appW m_is_at_rest (consW (varW 1) (consW (varW 2) (consW (varW 3) nilW)))))) (retW (tupW (consW (varW 2) (consW (varW 3) nilW)))) nextW)))
  (retW (cW .non)))
def m_first_unlike_stand : List D → W D := runW 4 w_first_unlike_stand
theorem d_first_unlike_stand {P : Program} {w : World} {K : PySem.W.Frag} {mg : Str → Option Value} {base : Heap} (T : Txt K mg) (D_ : DefOk K mg "first_unlike_stand" s_first_unlike_stand) (F_all_flags : FnD P w K mg base "all_flags" 1 [.v] .v m_all_flags) (F_is_at_rest : FnD P w K mg base "is_at_rest" 3 [.v, .v, .v] .v m_is_at_rest) : FnD P w K mg base "first_unlike_stand" 4 [.v, .v] .v m_first_unlike_stand := by
  refine fn_d D_ sc_first_unlike_stand 4 rfl rfl (fun _ _ _ _ _ _ us hl => match us, hl with | [_, _], _ => rfl) (by decide) rfl fun f cdv A outer s pl F H E hr => ?_
  have tk := L2.takes_of (X := cxOf (L2.CX P w) P w K mg base N_first_unlike_stand "first_unlike_stand" (defScope s_first_unlike_stand) f cdv A outer s H E) rfl rfl rfl rfl
  have nd := sc_first_unlike_stand.nd
  exact ⟨[.v, .v, .v, .v], (dss_cons (sFor (L2.passes_of (by rfl)) (di_seq (de_call F_all_flags (hr.mono (by decide)) (by rfl) tk (da_cons (k := .v) (de_fld ["Web", "RawWeb"] T.fl_folk (eV 0)) da_nil))) (gN 2 nd) htN (dssM [.v, .v, .v, .v] (dss_one (sFor (L2.passes_of (by rfl)) (di_seq (de_call F_all_flags (hr.mono (by decide)) (by rfl) tk (da_cons (k := .v) (de_b1 call_lenA uns_len (by rfl) T.f_len (de_fld ["Web", "RawWeb"] T.fl_houses (eV 0))) da_nil))) (gN 3 nd) htN (dssM [.v, .v, .v, .v] (dss_one (ds_if (dt_cmp (op_neD (hu64 hr)) ops_ne (nomark _) (de_call F_is_at_rest (hr.mono (by decide)) (by rfl) tk (da_cons (k := .v) (eV 0) (da_cons (k := .v) (eV 2) (da_cons (k := .v) (eV 3) da_nil)))) (de_call F_is_at_rest (hr.mono (by decide)) (by rfl) tk (da_cons (k := .v) (eV 1) (da_cons (k := .v) (eV 2) (da_cons (k := .v) (eV 3) da_nil))))) (dss_one (ds_ret (de_tup (da_cons (k := .v) (eV 2) (da_cons (k := .v) (eV 3) da_nil))))) (dssM [.v, .v, .v, .v] dss_nil))))))))
    (dss_one (ds_ret de_non)))⟩

def N_check_stands : List Str := ["one", "other"]
theorem sc_check_stands : FnScope N_check_stands ["one", "other"] (defScope s_check_stands) := ⟨rfl, rfl, rfl, by decide +kernel, rfl, by decide +kernel, by decide +kernel⟩
def w_check_stands : DL.Env → W Fl :=
  (seqW (exprW (appW m_check_match (consW (varW 0) (consW (varW 1) nilW))))
  (seqW (iteW (blW (binW neW (unW lenW (unW (fldW ["Web", "RawWeb"] "houses") (varW 0))) (unW lenW (unW (fldW ["Web", "RawWeb"] "houses") (varW 1))))) (raiseW "NoMatch") nextW)
  (exprW (appW m_check_many (consW (unW lenW (unW (fldW ["Web", "RawWeb"] "houses") (varW 0))) (consW (cW (.int 8)) nilW))))))
def m_check_stands : List D → W D := runW 2 w_check_stands
theorem d_check_stands {P : Program} {w : World} {K : PySem.W.Frag} {mg : Str → Option Value} {base : Heap} (T : Txt K mg) (D_ : DefOk K mg "check_stands" s_check_stands) (F_check_many : FnD P w K mg base "check_many" 3 [.v, .v] .v m_check_many) (F_check_match : FnD P w K mg base "check_match" 1 [.v, .v] .v m_check_match) : FnD P w K mg base "check_stands" 4 [.v, .v] .v m_check_stands := by
  refine fn_d D_ sc_check_stands 2 rfl rfl (fun _ _ _ _ _ _ us hl => match us, hl with | [_, _], _ => rfl) (by decide) rfl fun f cdv A outer s pl F H E hr => ?_
  have tk := L2.takes_of (X := cxOf (L2.CX P w) P w K mg base N_check_stands "check_stands" (defScope s_check_stands) f cdv A outer s H E) rfl rfl rfl rfl
  have nd := sc_check_stands.nd
  exact ⟨[.v, .v], (dss_cons (dsM [.v, .v] (ds_expr (de_call F_check_match (hr.mono (by decide)) (by rfl) tk (da_cons (k := .v) (eV 0) (da_cons (k := .v) (eV 1) da_nil)))))
    (dss_cons (ds_if (dt_cmp (op_neD (hu64 hr)) ops_ne (nomark _) (de_b1 call_lenA uns_len (by rfl) T.f_len (de_fld ["Web", "RawWeb"] T.fl_houses (eV 0))) (de_b1 call_lenA uns_len (by rfl) T.f_len (de_fld ["Web", "RawWeb"] T.fl_houses (eV 1)))) (dss_one (ds_raise0 T.x_NoMatch (by rfl) (by rfl) tk)) (dssM [.v, .v] dss_nil))
    (dss_one (ds_expr (de_call F_check_many (hr.mono (by decide)) (by rfl) tk (da_cons (k := .v) (de_b1 call_lenA uns_len (by rfl) T.f_len (de_fld ["Web", "RawWeb"] T.fl_houses (eV 0))) (da_cons (k := .v) (de_gint (by rfl) T.i_MOST_HOUSES_likeness) da_nil)))))))⟩

def N_unlike_stand : List Str := ["one", "other"]
theorem sc_unlike_stand : FnScope N_unlike_stand ["one", "other"] (defScope s_unlike_stand) := ⟨rfl, rfl, rfl, by decide +kernel, rfl, by decide +kernel, by decide +kernel⟩
def w_unlike_stand : DL.Env → W Fl :=
  (seqW (exprW (appW m_check_stands (consW (varW 0) (consW (varW 1) nilW))))
  (retW (appW m_first_unlike_stand (consW (varW 0) (consW (varW 1) nilW)))))
def m_unlike_stand : List D → W D := runW 2 w_unlike_stand
theorem d_unlike_stand {P : Program} {w : World} {K : PySem.W.Frag} {mg : Str → Option Value} {base : Heap} (T : Txt K mg) (D_ : DefOk K mg "unlike_stand" s_unlike_stand) (F_check_stands : FnD P w K mg base "check_stands" 4 [.v, .v] .v m_check_stands) (F_first_unlike_stand : FnD P w K mg base "first_unlike_stand" 4 [.v, .v] .v m_first_unlike_stand) : FnD P w K mg base "unlike_stand" 5 [.v, .v] .v m_unlike_stand := by
  refine fn_d D_ sc_unlike_stand 2 rfl rfl (fun _ _ _ _ _ _ us hl => match us, hl with | [_, _], _ => rfl) (by decide) rfl fun f cdv A outer s pl F H E hr => ?_
  have tk := L2.takes_of (X := cxOf (L2.CX P w) P w K mg base N_unlike_stand "unlike_stand" (defScope s_unlike_stand) f cdv A outer s H E) rfl rfl rfl rfl
  have nd := sc_unlike_stand.nd
  exact ⟨[.v, .v], (dss_cons (dsM [.v, .v] (ds_expr (de_call F_check_stands (hr.mono (by decide)) (by rfl) tk (da_cons (k := .v) (eV 0) (da_cons (k := .v) (eV 1) da_nil)))))
    (dss_one (ds_ret (de_call F_first_unlike_stand (hr.mono (by decide)) (by rfl) tk (da_cons (k := .v) (eV 0) (da_cons (k := .v) (eV 1) da_nil))))))⟩

def N_same_stands : List Str := ["one", "other"]
theorem sc_same_stands : FnScope N_same_stands ["one", "other"] (defScope s_same_stands) := ⟨rfl, rfl, rfl, by decide +kernel, rfl, by decide +kernel, by decide +kernel⟩
def w_same_stands : DL.Env → W Fl :=
  (seqW (exprW (appW m_check_stands (consW (varW 0) (consW (varW 1) nilW))))
  (retW (binW isW (appW m_first_unlike_stand (consW (varW 0) (consW (varW 1) nilW))) (cW .non))))
def m_same_stands : List D → W D := runW 2 w_same_stands
theorem d_same_stands {P : Program} {w : World} {K : PySem.W.Frag} {mg : Str → Option Value} {base : Heap} (T : Txt K mg) (D_ : DefOk K mg "same_stands" s_same_stands) (F_check_stands : FnD P w K mg base "check_stands" 4 [.v, .v] .v m_check_stands) (F_first_unlike_stand : FnD P w K mg base "first_unlike_stand" 4 [.v, .v] .v m_first_unlike_stand) : FnD P w K mg base "same_stands" 5 [.v, .v] .v m_same_stands := by
  refine fn_d D_ sc_same_stands 2 rfl rfl (fun _ _ _ _ _ _ us hl => match us, hl with | [_, _], _ => rfl) (by decide) rfl fun f cdv A outer s pl F H E hr => ?_
  have tk := L2.takes_of (X := cxOf (L2.CX P w) P w K mg base N_same_stands "same_stands" (defScope s_same_stands) f cdv A outer s H E) rfl rfl rfl rfl
  have nd := sc_same_stands.nd
  exact ⟨[.v, .v], (dss_cons (dsM [.v, .v] (ds_expr (de_call F_check_stands (hr.mono (by decide)) (by rfl) tk (da_cons (k := .v) (eV 0) (da_cons (k := .v) (eV 1) da_nil)))))
    (dss_one (ds_ret (de_cmp op_isN ops_is (nomark _) (de_call F_first_unlike_stand (hr.mono (by decide)) (by rfl) tk (da_cons (k := .v) (eV 0) (da_cons (k := .v) (eV 1) da_nil))) de_non))))⟩

def N__law_pool : List Str := ["_law_script", "_law_seed", "_law_cell"]
theorem sc__law_pool : FnScope N__law_pool ["_law_script"] (defScope s__law_pool) := ⟨rfl, rfl, rfl, by decide +kernel, rfl, by decide +kernel, by decide +kernel⟩
def w__law_pool : DL.Env → W Fl :=
  (seqW (asgW 1 (binW addW (binW addW (binW modW (unW intW (unW sumW (sliceW (varW 0) noPartW (partW (cW (.int 1)))))) (cW (.int 1000003))) (unW lenW (varW 0))) (cW (.int 1))))
  (seqW (forW (seqI (sliceW (varW 0) noPartW (partW (cW (.int 63))))) (tName 2) (asgW 1 (binW modW (unW intW (binW addW (binW addW (binW mulW (varW 1) (cW (.int 48271))) (binW modW (unW intW (varW 2)) (cW (.int 2147483629)))) (cW (.int 11)))) (cW (.int 2147483647)))))
  (retW (lstW (consW (varW 1) (consW (cW (.int 0)) (consW (compW [2] (seqI (sliceW (varW 0) noPartW (partW (cW (.int 63))))) (tName 2) (blW (binW geW (unW absW (varW 2)) (binW powW (cW (.int 10)) (cW (.int 18))))) (unW absW (varW 2))) nilW)))))))
def m__law_pool : List D → W D := runW 3 w__law_pool
theorem d__law_pool {P : Program} {w : World} {K : PySem.W.Frag} {mg : Str → Option Value} {base : Heap} (T : Txt K mg) (D_ : DefOk K mg "_law_pool" s__law_pool) : FnD P w K mg base "_law_pool" 1 [.v] .v m__law_pool := by
  refine fn_d D_ sc__law_pool 3 rfl rfl (fun _ _ _ _ _ _ us hl => match us, hl with | [_], _ => rfl) (by decide) rfl fun f cdv A outer s pl F H E hr => ?_
  have tk := L2.takes_of (X := cxOf (L2.CX P w) P w K mg base N__law_pool "_law_pool" (defScope s__law_pool) f cdv A outer s H E) rfl rfl rfl rfl
  have nd := sc__law_pool.nd
  exact ⟨[.v, .v, .v], (dss_cons (dsM [.v, .v, .v] (sV 1 nd (de_bin op_addA ops_add (de_bin op_addA ops_add (de_bin op_mod ops_mod (de_t1 call_int1 uns_int (by rfl) T.f_int (de_b1 (cr_sum (by rfl)) uns_sum (by rfl) T.f_sum (de_slice (eV 0) dp_none (dp_some de_int)))) de_int) (de_b1 call_lenA uns_len (by rfl) T.f_len (eV 0))) de_int)))
    (dss_cons (sFor (L2.passes_of (by rfl)) (di_seq (de_slice (eV 0) dp_none (dp_some de_int))) (gN 2 nd) htN (dssM [.v, .v, .v] (dss_one (sV 1 nd (de_bin op_mod ops_mod (de_t1 call_int1 uns_int (by rfl) T.f_int (de_bin op_addA ops_add (de_bin op_addA ops_add (de_bin op_mul ops_mul (eV 1) de_int) (de_bin op_mod ops_mod (de_t1 call_int1 uns_int (by rfl) T.f_int (eV 2)) de_int)) de_int)) de_int)))))
    (dss_one (ds_ret ((de_lst (da_cons (k := .v) (eV 1) (da_cons (k := .v) de_int (da_cons (k := .v) ((de_lc [("_law_cell", 2)] (by rfl) nd (di_seq (de_slice (eV 0) dp_none (dp_some de_int))) (blkOk_by (by kernel_rfl)) (fun _ _ _ _ _ => (gN 2 nd)) (fun _ _ _ _ _ => (dts_one (dt_cmp op_ge (ops_cmp (fun i j => decide (j ≤ i))) (nomark _) (de_b1 call_abs uns_abs (by rfl) T.f_abs (eV 2)) (de_bin op_pow ops_pow de_int de_int)))) (fun _ _ _ _ _ => (de_b1 call_abs uns_abs (by rfl) T.f_abs (eV 2))) (by decide))).v_of_n da_nil))))).v_of_n))))⟩

def N__law_holder : List Str := ["_law_pool_here", "_law_folk", "_law_houses", "_law_lean"]
theorem sc__law_holder : FnScope N__law_holder ["_law_pool_here", "_law_folk", "_law_houses", "_law_lean"] (defScope s__law_holder) := ⟨rfl, rfl, rfl, by decide +kernel, rfl, by decide +kernel, by decide +kernel⟩
def w__law_holder : DL.Env → W Fl :=
  (seqW (iteW (orT (blW (binW eqW (varW 2) (cW (.int 0)))) (blW (binW ltW (appW m__law_draw (consW (varW 0) (consW (cW (.int 6)) nilW))) (varW 3)))) (retW (tupW (consW (cW (.str "f")) (consW (appW m__law_draw (consW (varW 0) (consW (varW 1) nilW))) nilW)))) nextW)
  (retW (tupW (consW (cW (.str "h")) (consW (appW m__law_draw (consW (varW 0) (consW (varW 2) nilW))) nilW)))))
def m__law_holder : List D → W D := runW 4 w__law_holder
theorem d__law_holder {P : Program} {w : World} {K : PySem.W.Frag} {mg : Str → Option Value} {base : Heap} (T : Txt K mg) (D_ : DefOk K mg "_law_holder" s__law_holder) (F__law_draw : FnD P w K mg base "_law_draw" 1 [.v, .v] .v m__law_draw) : FnD P w K mg base "_law_holder" 2 [.v, .v, .v, .v] .v m__law_holder := by
  refine fn_d D_ sc__law_holder 4 rfl rfl (fun _ _ _ _ _ _ us hl => match us, hl with | [_, _, _, _], _ => rfl) (by decide) rfl fun f cdv A outer s pl F H E hr => ?_
  have tk := L2.takes_of (X := cxOf (L2.CX P w) P w K mg base N__law_holder "_law_holder" (defScope s__law_holder) f cdv A outer s H E) rfl rfl rfl rfl
  have nd := sc__law_holder.nd
  exact ⟨[.v, .v, .v, .v], (dss_cons (ds_if (dw_or (dt_cmp (op_eqD (hu64 hr)) ops_eq (nomark _) (eV 2) de_int) (dw_or1 (dt_cmp op_lt (ops_cmp (fun i j => decide (i < j))) (nomark _) (de_call F__law_draw (hr.mono (by decide)) (by rfl) tk (da_cons (k := .v) (eV 0) (da_cons (k := .v) de_int da_nil))) (eV 3)))).t (dss_one (ds_ret (de_tup (da_cons (k := .v) de_str (da_cons (k := .v) (de_call F__law_draw (hr.mono (by decide)) (by rfl) tk (da_cons (k := .v) (eV 0) (da_cons (k := .v) (eV 1) da_nil))) da_nil))))) (dssM [.v, .v, .v, .v] dss_nil))
    (dss_one (ds_ret (de_tup (da_cons (k := .v) de_str (da_cons (k := .v) (de_call F__law_draw (hr.mono (by decide)) (by rfl) tk (da_cons (k := .v) (eV 0) (da_cons (k := .v) (eV 2) da_nil))) da_nil))))))⟩

def N__law_told : List Str := ["_law_pool_here", "_law_most_folk", "_law_most_houses", "_law_folk", "_law_houses", "_law_kind", "_law_lean", "_law_found", "_law_house", "_law_many", "_law_ahead", "_law_shares", "_law_k"]
theorem sc__law_told : FnScope N__law_told ["_law_pool_here", "_law_most_folk", "_law_most_houses"] (defScope s__law_told) := ⟨rfl, rfl, rfl, by decide +kernel, rfl, by decide +kernel, by decide +kernel⟩
def w__law_told : DL.Env → W Fl :=
  (seqW (asgW 3 (binW addW (cW (.int 1)) (appW m__law_draw (consW (varW 0) (consW (varW 1) nilW)))))
  (seqW (asgW 4 (appW m__law_draw (consW (varW 0) (consW (binW addW (varW 2) (cW (.int 1))) nilW))))
  (seqW (asgW 5 (appW m__law_draw (consW (varW 0) (consW (cW (.int 5)) nilW))))
  (seqW (asgW 6 (binW ixW (lstW (consW (cW (.int 3)) (consW (cW (.int 3)) (consW (cW (.int 1)) (consW (cW (.int 4)) (consW (cW (.int 3)) nilW)))))) (varW 5)))
  (seqW (asgW 7 (cW (.lst [])))
  (seqW (forW (rangeI1 (varW 4)) (tName 8) (seqW (asgW 9 (binW ixW (lstW (consW (cW (.int 1)) (consW (cW (.int 3)) (consW (cW (.int 3)) (consW (cW (.int 3)) (consW (cW (.int 5)) nilW)))))) (appW m__law_draw (consW (varW 0) (consW (cW (.int 5)) nilW)))))
  (seqW (iteW (andT (blW (binW eqW (varW 5) (cW (.int 4)))) (blW (binW eqW (appW m__law_draw (consW (varW 0) (consW (cW (.int 3)) nilW))) (cW (.int 0))))) (asgW 9 (binW ixW (lstW (consW (cW (.int 7)) (consW (cW (.int 9)) (consW (cW (.int 15)) nilW)))) (appW m__law_draw (consW (varW 0) (consW (cW (.int 3)) nilW))))) nextW)
  (seqW (asgW 10 (varW 4))
  (seqW (iteW (blW (binW eqW (varW 5) (cW (.int 1)))) (asgW 10 (varW 8)) nextW)
  (seqW (asgW 11 (compW [12] (rangeI1 (varW 9)) (tName 12) yesW (appW m__law_holder (consW (varW 0) (consW (varW 3) (consW (varW 10) (consW (varW 6) nilW)))))))
  (seqW (iteW (blW (binW eqW (varW 5) (cW (.int 3)))) (asgW 11 (binW addW (compW [12] (rangeI1 (binW subW (varW 9) (cW (.int 1)))) (tName 12) yesW (binW ixW (varW 11) (unW intW (binW modW (varW 12) (cW (.int 2)))))) (lstW (consW (binW ixW (varW 11) (unW negW (cW (.int 1)))) nilW)))) nextW)
  (appendW 7 (unW (tupOfW .v) (unW (sortW .v) (varW 11)))))))))))
  (retW (tupW (consW (varW 3) (consW (unW (tupOfW .v) (varW 7)) nilW))))))))))
def m__law_told : List D → W D := runW 13 w__law_told
theorem d__law_told {P : Program} {w : World} {K : PySem.W.Frag} {mg : Str → Option Value} {base : Heap} (T : Txt K mg) (D_ : DefOk K mg "_law_told" s__law_told) (F__law_draw : FnD P w K mg base "_law_draw" 1 [.v, .v] .v m__law_draw) (F__law_holder : FnD P w K mg base "_law_holder" 2 [.v, .v, .v, .v] .v m__law_holder) : FnD P w K mg base "_law_told" 3 [.v, .v, .v] .v m__law_told := by
  refine fn_d D_ sc__law_told 13 rfl rfl (fun _ _ _ _ _ _ us hl => match us, hl with | [_, _, _], _ => rfl) (by decide) rfl fun f cdv A outer s pl F H E hr => ?_
  have tk := L2.takes_of (X := cxOf (L2.CX P w) P w K mg base N__law_told "_law_told" (defScope s__law_told) f cdv A outer s H E) rfl rfl rfl rfl
  have nd := sc__law_told.nd
  exact ⟨[.v, .v, .v, .v, .v, .v, .v, .v, .v, .v, .v, .v, .v], (dss_cons (dsM [.v, .v, .v, .v, .v, .v, .v, .v, .v, .v, .v, .v, .v] (sV 3 nd (de_bin op_addA ops_add de_int (de_call F__law_draw (hr.mono (by decide)) (by rfl) tk (da_cons (k := .v) (eV 0) (da_cons (k := .v) (eV 1) da_nil))))))
    (dss_cons (dsM [.v, .v, .v, .v, .v, .v, .v, .v, .v, .v, .v, .v, .v] (sV 4 nd (de_call F__law_draw (hr.mono (by decide)) (by rfl) tk (da_cons (k := .v) (eV 0) (da_cons (k := .v) (de_bin op_addA ops_add (eV 2) de_int) da_nil)))))
    (dss_cons (dsM [.v, .v, .v, .v, .v, .v, .v, .v, .v, .v, .v, .v, .v] (sV 5 nd (de_call F__law_draw (hr.mono (by decide)) (by rfl) tk (da_cons (k := .v) (eV 0) (da_cons (k := .v) de_int da_nil)))))
    (dss_cons (dsM [.v, .v, .v, .v, .v, .v, .v, .v, .v, .v, .v, .v, .v] (sV 6 nd (de_ix (ix_any (hu1 hr)) ops_ix ((de_lst (da_cons (k := .v) de_int (da_cons (k := .v) de_int (da_cons (k := .v) de_int (da_cons (k := .v) de_int (da_cons (k := .v) de_int da_nil))))))).v_of_n (eV 5) (fun _ _ => (by rfl)))))
    (dss_cons (dsM [.v, .v, .v, .v, .v, .v, .v, .o 1, .v, .v, .v, .v, .v] (sO 7 nd (de_nil 0)))
    (dss_cons (sFor (L2.passes_of (by rfl)) (di_range1 (by rfl) T.f_range (eV 4)) (gN 8 nd) htN (dssM [.v, .v, .v, .v, .v, .v, .v, .o 1, .v, .v, .v, .v, .v] (dss_cons (dsM [.v, .v, .v, .v, .v, .v, .v, .o 1, .v, .v, .v, .v, .v] (sV 9 nd (de_ix (ix_any (hu1 hr)) ops_ix ((de_lst (da_cons (k := .v) de_int (da_cons (k := .v) de_int (da_cons (k := .v) de_int (da_cons (k := .v) de_int (da_cons (k := .v) de_int da_nil))))))).v_of_n (de_call F__law_draw (hr.mono (by decide)) (by rfl) tk (da_cons (k := .v) (eV 0) (da_cons (k := .v) de_int da_nil))) (fun _ _ => (by rfl)))))
    (dss_cons (ds_if (dw_and (dt_cmp (op_eqD (hu64 hr)) ops_eq (nomark _) (eV 5) de_int) (dw_and1 (dt_cmp (op_eqD (hu64 hr)) ops_eq (nomark _) (de_call F__law_draw (hr.mono (by decide)) (by rfl) tk (da_cons (k := .v) (eV 0) (da_cons (k := .v) de_int da_nil))) de_int))).t (dssM [.v, .v, .v, .v, .v, .v, .v, .o 1, .v, .v, .v, .v, .v] (dss_one (sV 9 nd (de_ix (ix_any (hu1 hr)) ops_ix ((de_lst (da_cons (k := .v) de_int (da_cons (k := .v) de_int (da_cons (k := .v) de_int da_nil))))).v_of_n (de_call F__law_draw (hr.mono (by decide)) (by rfl) tk (da_cons (k := .v) (eV 0) (da_cons (k := .v) de_int da_nil))) (fun _ _ => (by rfl)))))) (dssM [.v, .v, .v, .v, .v, .v, .v, .o 1, .v, .v, .v, .v, .v] dss_nil))
    (dss_cons (dsM [.v, .v, .v, .v, .v, .v, .v, .o 1, .v, .v, .v, .v, .v] (sV 10 nd (eV 4)))
    (dss_cons (ds_if (dt_cmp (op_eqD (hu64 hr)) ops_eq (nomark _) (eV 5) de_int) (dssM [.v, .v, .v, .v, .v, .v, .v, .o 1, .v, .v, .v, .v, .v] (dss_one (sV 10 nd (eV 8)))) (dssM [.v, .v, .v, .v, .v, .v, .v, .o 1, .v, .v, .v, .v, .v] dss_nil))
    (dss_cons (dsM [.v, .v, .v, .v, .v, .v, .v, .o 1, .v, .v, .v, .v, .v] (sV 11 nd ((de_lc [("_law_k", 12)] (by rfl) nd (di_range1 (by rfl) T.f_range (eV 9)) (blkOk_by (by kernel_rfl)) (fun _ _ _ _ _ => (gN 12 nd)) (fun _ _ _ _ _ => dts_nil) (fun _ _ _ _ _ => (de_call F__law_holder (hr.mono (by decide)) (by rfl) takes0 (da_cons (k := .v) (eV 0) (da_cons (k := .v) (eV 3) (da_cons (k := .v) (eV 10) (da_cons (k := .v) (eV 6) da_nil)))))) (by decide))).v_of_n))
    (dss_cons (ds_if (dt_cmp (op_eqD (hu64 hr)) ops_eq (nomark _) (eV 5) de_int) (dssM [.v, .v, .v, .v, .v, .v, .v, .o 1, .v, .v, .v, .v, .v] (dss_one (sV 11 nd (de_bin op_addA ops_add ((de_lc [("_law_k", 12)] (by rfl) nd (di_range1 (by rfl) T.f_range (de_bin op_sub ops_sub (eV 9) de_int)) (blkOk_by (by kernel_rfl)) (fun _ _ _ _ _ => (gN 12 nd)) (fun _ _ _ _ _ => dts_nil) (fun _ _ _ _ _ => (de_ix (ix_any (hu1 hr)) ops_ix (eV 11) (de_t1 call_int1 uns_int (by rfl) T.f_int (de_bin op_mod ops_mod (eV 12) de_int)) (fun _ _ => (by rfl)))) (by decide))).v_of_n ((de_lst (da_cons (k := .v) (de_ix (ix_any (hu1 hr)) ops_ix (eV 11) (de_neg de_int) (fun _ _ => (by rfl))) da_nil))).v_of_n)))) (dssM [.v, .v, .v, .v, .v, .v, .v, .o 1, .v, .v, .v, .v, .v] dss_nil))
    (dss_one (ds_append (i := 7) (by rfl) (by rfl) (.inl (by rfl)) (de_t1 call_tuple_of uns_tup (by rfl) T.f_tuple ((de_b1 (cr_sortA (by rfl) (hu62 hr)) uns_sort (by rfl) T.f_sorted (eV 11))).v_of_n)))))))))))
    (dss_pre 7 (dss_one (ds_ret (de_tup (da_cons (k := .v) (eV 3) (da_cons (k := .v) (de_t1 call_tuple_of uns_tup (by rfl) T.f_tuple (eV 7)) da_nil))))) (by rfl))))))))⟩

def N_Web_keep : List Str := ["self", "folk", "houses", "house", "persons", "person", "owners", "sign", "number"]
theorem sc_Web_keep : FnScope N_Web_keep ["self", "folk", "houses"] (defScope s_Web_keep) := ⟨rfl, rfl, rfl, by decide +kernel, rfl, by decide +kernel, by decide +kernel⟩
def w_Web_keep : DL.Env → W Fl :=
  (seqW (setFldW 0 ["Web", "RawWeb"] "folk" 1 .v (varW 1))
  (seqW (setFldW 0 ["Web", "RawWeb"] "houses" 1 .v (varW 2))
  (seqW (setFldW 0 ["Web", "RawWeb"] "kept_folk" 1 (.n 1) (cW (.lst [])))
  (seqW (setFldW 0 ["Web", "RawWeb"] "kept_houses" 1 (.n 1) (cW (.lst [])))
  (seqW (setFldW 0 ["Web", "RawWeb"] "kept_half" 1 (.n 1) (cW (.lst [])))
  (forW (seqI (varW 2)) (tName 3) (seqW (asgW 4 (compW [5] (rangeI1 (varW 1)) (tName 5) yesW (cW (.int 0))))
  (seqW (asgW 6 (cW (.dct [] [])))
  (seqW (forW (seqI (varW 3)) (tTup' (tCons' (tName 7) (tCons' (tName 8) tNil'))) (iteW (blW (binW eqW (varW 7) (cW (.str "f")))) (augIxW 4 (varW 8) (cW (.int 1))) (putW 6 (varW 8) (binW addW (getCW .r (varW 6) (varW 8) (cW (.int 0))) (cW (.int 1))))))
  (seqW (fldAppendW 0 ["Web", "RawWeb"] "kept_folk" 0 .v (varW 4))
  (seqW (fldAppendW 0 ["Web", "RawWeb"] "kept_houses" 0 .v (unW (sortItW .r) (varW 6)))
  (fldAppendW 0 ["Web", "RawWeb"] "kept_half" 0 .v (binW divW (binW addW (unW lenW (varW 3)) (cW (.int 1))) (cW (.int 2)))))))))))))))
def m_Web_keep : List D → W D := runM 9 w_Web_keep
theorem d_Web_keep {P : Program} {w : World} {K : PySem.W.Frag} {mg : Str → Option Value} {base : Heap} (T : Txt K mg) {fa : Addr} {fd : FuncData} (D_ : FunD K "keep" "Web.keep" (defArgs s_Web_keep) (defBody s_Web_keep) (defScope s_Web_keep) [] [] fa fd) : FnM P w K mg base fa 1 2 [.v, .v] m_Web_keep := by
  refine fn_m D_ sc_Web_keep 9 rfl rfl (fun _ _ _ _ _ _ us hl => match us, hl with | [_, _, _], _ => rfl) (by decide) fun f cdv A outer s pl fp F H E u hr => ?_
  have tk := L2.takes_of (X := cxOf (L2.CX P w) P w K mg base N_Web_keep "Web.keep" (defScope s_Web_keep) f cdv A outer s H E) rfl rfl rfl rfl
  have nd := sc_Web_keep.nd
  exact ⟨[.p 2 u, .v, .v, .v, .v, .v, .v, .v, .v], rfl, (dss_cons (dsM [.p 2 u, .v, .v, .v, .v, .v, .v, .v, .v] (ds_setFld (i := 0) (n := 1) (by rfl) (by rfl) (.inl (by rfl)) T.fl_folk (eV 1)))
    (dss_cons (dsM [.p 2 u, .v, .v, .v, .v, .v, .v, .v, .v] (ds_setFld (i := 0) (n := 1) (by rfl) (by rfl) (.inl (by rfl)) T.fl_houses (eV 2)))
    (dss_cons (dsM [.p 2 u, .v, .v, .v, .v, .v, .v, .v, .v] (ds_setFld (i := 0) (n := 1) (by rfl) (by rfl) (.inl (by rfl)) T.fl_kept_folk (de_nil 0)))
    (dss_cons (dsM [.p 2 u, .v, .v, .v, .v, .v, .v, .v, .v] (ds_setFld (i := 0) (n := 1) (by rfl) (by rfl) (.inl (by rfl)) T.fl_kept_houses (de_nil 0)))
    (dss_cons (dsM [.p 2 u, .v, .v, .v, .v, .v, .v, .v, .v] (ds_setFld (i := 0) (n := 1) (by rfl) (by rfl) (.inl (by rfl)) T.fl_kept_half (de_nil 0)))
    (dss_one (sFor (L2.passes_of (by rfl)) (di_seq (eV 2)) (gN 3 nd) htN (dssM [.p 2 u, .v, .v, .v, .v, .v, .v, .v, .v] (dss_frz 6 (dss_cons (dsM [.p 2 u, .v, .v, .v, .o 1, .v, .v, .v, .v] (ds_setLc (i := 4) [("person", 5)] (by rfl) nd (by rfl) (by rfl) (sw_true (by rfl) (by rfl) (by rfl) (by decide +kernel)) (di_range1 (by rfl) T.f_range (eV 1)) (blkOk_by (by kernel_rfl)) (fun _ _ _ _ _ => (gN 5 nd)) (fun _ _ _ _ _ => dts_nil) (fun _ _ _ _ _ => de_int) (by decide) (Nat.le_of_ble_eq_true (by rfl))))
    (dss_cons (dsM [.p 2 u, .v, .v, .v, .o 1, .v, .o 1, .v, .v] (sO 6 nd (de_dnewK 0)))
    (dss_cons (sFor (L2.passes_of (by rfl)) (di_seq (eV 3)) (gT (dgs_cons (gN 7 nd) (dgs_cons (gN 8 nd) dgs_nil)) (tl1 (tl1 tl0))) (teT (te1 (te1 te0))) (dssM [.p 2 u, .v, .v, .v, .o 1, .v, .o 1, .v, .v] (dss_one (ds_if (dt_cmp (op_eqD (hu64 hr)) ops_eq (nomark _) (eV 7) de_str) (dssM [.p 2 u, .v, .v, .v, .o 1, .v, .o 1, .v, .v] (dss_one (ds_augIx (i := 4) (by rfl) (by rfl) (.inl (by rfl)) de_int (eV 8)))) (dssM [.p 2 u, .v, .v, .v, .o 1, .v, .o 1, .v, .v] (dss_one (ds_put (i := 6) (hu1 hr) (by rfl) (by rfl) (.inl (by rfl)) (de_bin op_addA ops_add (de_get (hu1 hr) (eR 6) (eV 8) de_int ⟨(by rfl), (by rfl), (by rfl), (by rfl)⟩) de_int) (eV 8))))))))
    (dss_pre 4 (dss_cons (dsM [.p 2 u, .v, .v, .v, .v, .v, .o 1, .v, .v] (ds_fldAppend (i := 0) (n := 0) (by rfl) (by rfl) (.inl (by rfl)) T.fl_kept_folk (eV 4)))
    (dss_cons (dsM [.p 2 u, .v, .v, .v, .v, .v, .o 1, .v, .v] (ds_fldAppend (i := 0) (n := 0) (by rfl) (by rfl) (.inl (by rfl)) T.fl_kept_houses ((de_sortIt (by rfl) (hu62 hr) (eR 6) (by rfl) T.f_sorted)).v_of_n))
    (dss_one (ds_fldAppend (i := 0) (n := 0) (by rfl) (by rfl) (.inl (by rfl)) T.fl_kept_half (de_bin op_fdiv ops_div (de_bin op_addA ops_add (de_b1 call_lenA uns_len (by rfl) T.f_len (eV 3)) de_int) de_int))))) (by rfl))))) (by rfl))))))))))⟩

def N_Web___init__ : List Str := ["self", "folk", "houses", "number", "house"]
theorem sc_Web___init__ : FnScope N_Web___init__ ["self", "folk", "houses"] (defScope s_Web___init__) := ⟨rfl, rfl, rfl, by decide +kernel, rfl, by decide +kernel, by decide +kernel⟩
def w_Web___init__ : DL.Env → W Fl :=
  (seqW (iteW (notT (blW (appW m_is_within (consW (varW 1) (consW (cW (.int 1)) (consW (cW (.int 6)) nilW)))))) (raise1W "BadWeb" "part" (cW (.str "folk"))) nextW)
  (seqW (iteW (orT (notT (blW (unW (isiW "tuple") (varW 2)))) (blW (binW gtW (unW lenW (varW 2)) (cW (.int 12))))) (raise1W "BadWeb" "part" (cW (.str "houses"))) nextW)
  (seqW (forW (enumI (varW 2)) (tTup' (tCons' (tName 3) (tCons' (tName 4) tNil'))) (iteW (notT (blW (appW m_are_shares (consW (varW 4) (consW (varW 1) (consW (unW lenW (varW 2)) nilW)))))) (raise1W "BadWeb" "part" (varW 3)) nextW))
  (methW 0 ["Web"] "keep" m_Web_keep (consW (varW 1) (consW (varW 2) nilW))))))
def m_Web___init__ : List D → W D := runM 5 w_Web___init__
theorem d_Web___init__ {P : Program} {w : World} {K : PySem.W.Frag} {mg : Str → Option Value} {base : Heap} (T : Txt K mg) {fa : Addr} {fd : FuncData} (D_ : FunD K "__init__" "Web.__init__" (defArgs s_Web___init__) (defBody s_Web___init__) (defScope s_Web___init__) [] [] fa fd) {A_Web_keep : Addr} (F_Web_keep : FnM P w K mg base A_Web_keep 1 2 [.v, .v] m_Web_keep) (F_are_shares : FnD P w K mg base "are_shares" 4 [.v, .v, .v] .v m_are_shares) (F_is_within : FnD P w K mg base "is_within" 2 [.v, .v, .v] .v m_is_within) (XX_BadWeb : ExcX P w K mg base "BadWeb" "part") (me_Web_keep : ∀ c ∈ (["Web"] : List Str), ∃ Cl, mg c = some (.ref Cl) ∧ Cls K Cl ∧ Meth K Cl "keep" A_Web_keep) : FnM P w K mg base fa 5 2 [.v, .v] m_Web___init__ := by
  refine fn_m D_ sc_Web___init__ 5 rfl rfl (fun _ _ _ _ _ _ us hl => match us, hl with | [_, _, _], _ => rfl) (by decide) fun f cdv A outer s pl fp F H E u hr => ?_
  have tk := L2.takes_of (X := cxOf (L2.CX P w) P w K mg base N_Web___init__ "Web.__init__" (defScope s_Web___init__) f cdv A outer s H E) rfl rfl rfl rfl
  have nd := sc_Web___init__.nd
  exact ⟨[.p 2 u, .v, .v, .v, .v], rfl, (dss_cons (ds_if (dt_not (dt_val (de_call F_is_within (hr.mono (by decide)) (by rfl) tk (da_cons (k := .v) (eV 1) (da_cons (k := .v) de_int (da_cons (k := .v) (de_gint (by rfl) T.i_MOST_FOLK) da_nil)))))) (dss_one (ds_raise1 XX_BadWeb (hr.mono (by decide)) (by rfl) (by rfl) tk de_str)) (dssM [.p 2 u, .v, .v, .v, .v] dss_nil))
    (dss_cons (ds_if (dw_or (dt_not (dt_val (de_isi sub_tuple (by rfl) T.f_isinstance (by rfl) T.f_tuple (eV 2)))) (dw_or1 (dt_cmp op_gt (ops_cmp (fun i j => decide (j < i))) (nomark _) (de_b1 call_lenA uns_len (by rfl) T.f_len (eV 2)) (de_gint (by rfl) T.i_MOST_HOUSES_webs)))).t (dss_one (ds_raise1 XX_BadWeb (hr.mono (by decide)) (by rfl) (by rfl) tk de_str)) (dssM [.p 2 u, .v, .v, .v, .v] dss_nil))
    (dss_cons (sFor (L2.passes_of (by rfl)) (di_enum (by rfl) T.f_enumerate (eV 2)) (gT (dgs_cons (gN 3 nd) (dgs_cons (gN 4 nd) dgs_nil)) (tl1 (tl1 tl0))) (teT (te1 (te1 te0))) (dssM [.p 2 u, .v, .v, .v, .v] (dss_one (ds_if (dt_not (dt_val (de_call F_are_shares (hr.mono (by decide)) (by rfl) tk (da_cons (k := .v) (eV 4) (da_cons (k := .v) (eV 1) (da_cons (k := .v) (de_b1 call_lenA uns_len (by rfl) T.f_len (eV 2)) da_nil)))))) (dss_one (ds_raise1 XX_BadWeb (hr.mono (by decide)) (by rfl) (by rfl) tk (eV 3))) (dssM [.p 2 u, .v, .v, .v, .v] dss_nil)))))
    (dss_one (ds_meth (i := 0) (by rfl) (by rfl) (.inl (by rfl)) me_Web_keep F_Web_keep (hr.mono (by decide)) tk (da_cons (k := .v) (eV 1) (da_cons (k := .v) (eV 2) da_nil)))))))⟩

def N__law_web : List Str := ["_law_told_here"]
theorem sc__law_web : FnScope N__law_web ["_law_told_here"] (defScope s__law_web) := ⟨rfl, rfl, rfl, by decide +kernel, rfl, by decide +kernel, by decide +kernel⟩
def w__law_web : DL.Env → W Fl :=
  (retW (makeW "Web" m_Web___init__ (consW (binW ixW (varW 0) (cW (.int 0))) (consW (binW ixW (varW 0) (cW (.int 1))) nilW))))
def m__law_web : List D → W D := runW 1 w__law_web
theorem d__law_web {P : Program} {w : World} {K : PySem.W.Frag} {mg : Str → Option Value} {base : Heap} (T : Txt K mg) (D_ : DefOk K mg "_law_web" s__law_web) {A_Web___init__ : Addr} (F_Web___init__ : FnM P w K mg base A_Web___init__ 5 2 [.v, .v] m_Web___init__) (mk_Web : ∃ Cl, mg "Web" = some (.ref Cl) ∧ Mk K Cl A_Web___init__) : FnD P w K mg base "_law_web" 7 [.v] .v m__law_web := by
  refine fn_d D_ sc__law_web 1 rfl rfl (fun _ _ _ _ _ _ us hl => match us, hl with | [_], _ => rfl) (by decide) rfl fun f cdv A outer s pl F H E hr => ?_
  have tk := L2.takes_of (X := cxOf (L2.CX P w) P w K mg base N__law_web "_law_web" (defScope s__law_web) f cdv A outer s H E) rfl rfl rfl rfl
  have nd := sc__law_web.nd
  exact ⟨[.v], (dss_one (ds_ret ((de_make mk_Web F_Web___init__ (hr.mono (by decide)) (by rfl) tk (da_cons (k := .v) (de_ix (ix_any (hu1 hr)) ops_ix (eV 0) de_int (fun _ _ => (by rfl))) (da_cons (k := .v) (de_ix (ix_any (hu1 hr)) ops_ix (eV 0) de_int (fun _ _ => (by rfl))) da_nil)))).v_of_n))⟩

def N__law_says : List Str := ["_law_told_here", "_law_vote", "_law_boards_here", "_law_house", "_law_many", "_law_sign", "_law_number"]
theorem sc__law_says : FnScope N__law_says ["_law_told_here", "_law_vote", "_law_boards_here", "_law_house"] (defScope s__law_says) := ⟨rfl, rfl, rfl, by decide +kernel, rfl, by decide +kernel, by decide +kernel⟩
def w__law_says : DL.Env → W Fl :=
  (seqW (asgW 4 (cW (.int 0)))
  (seqW (forW (seqI (binW ixW (binW ixW (varW 0) (cW (.int 1))) (varW 3))) (tTup' (tCons' (tName 5) (tCons' (tName 6) tNil'))) (asgW 4 (binW addW (varW 4) (unW intW (binW ixW (ifW (blW (binW eqW (varW 5) (cW (.str "f")))) (varW 1) (varW 2)) (varW 6))))))
  (retW (binW gtW (binW mulW (cW (.int 2)) (varW 4)) (unW lenW (binW ixW (binW ixW (varW 0) (cW (.int 1))) (varW 3)))))))
def m__law_says : List D → W D := runW 7 w__law_says
theorem d__law_says {P : Program} {w : World} {K : PySem.W.Frag} {mg : Str → Option Value} {base : Heap} (T : Txt K mg) (D_ : DefOk K mg "_law_says" s__law_says) : FnD P w K mg base "_law_says" 1 [.v, .v, .v, .v] .v m__law_says := by
  refine fn_d D_ sc__law_says 7 rfl rfl (fun _ _ _ _ _ _ us hl => match us, hl with | [_, _, _, _], _ => rfl) (by decide) rfl fun f cdv A outer s pl F H E hr => ?_
  have tk := L2.takes_of (X := cxOf (L2.CX P w) P w K mg base N__law_says "_law_says" (defScope s__law_says) f cdv A outer s H E) rfl rfl rfl rfl
  have nd := sc__law_says.nd
  exact ⟨[.v, .v, .v, .v, .v, .v, .v], (dss_cons (dsM [.v, .v, .v, .v, .v, .v, .v] (sV 4 nd de_int))
    (dss_cons (sFor (L2.passes_of (by rfl)) (di_seq (de_ix (ix_any (hu1 hr)) ops_ix (de_ix (ix_any (hu1 hr)) ops_ix (eV 0) de_int (fun _ _ => (by rfl))) (eV 3) (fun _ _ => (by rfl)))) (gT (dgs_cons (gN 5 nd) (dgs_cons (gN 6 nd) dgs_nil)) (tl1 (tl1 tl0))) (teT (te1 (te1 te0))) (dssM [.v, .v, .v, .v, .v, .v, .v] (dss_one (sV 4 nd (de_bin op_addA ops_add (eV 4) (de_t1 call_int1 uns_int (by rfl) T.f_int (de_ix (ix_any (hu1 hr)) ops_ix (de_ifExp (dt_cmp (op_eqD (hu64 hr)) ops_eq (nomark _) (eV 5) de_str) (eV 1) (eV 2)) (eV 6) (fun _ _ => (by rfl)))))))))
    (dss_one (ds_ret (de_cmp op_gt (ops_cmp (fun i j => decide (j < i))) (nomark _) (de_bin op_mul ops_mul de_int (eV 4)) (de_b1 call_lenA uns_len (by rfl) T.f_len (de_ix (ix_any (hu1 hr)) ops_ix (de_ix (ix_any (hu1 hr)) ops_ix (eV 0) de_int (fun _ _ => (by rfl))) (eV 3) (fun _ _ => (by rfl)))))))))⟩

def N__law_boards : List Str := ["_law_many", "_law_found", "_law_house", "_law_longer", "_law_boards_here"]
theorem sc__law_boards : FnScope N__law_boards ["_law_many"] (defScope s__law_boards) := ⟨rfl, rfl, rfl, by decide +kernel, rfl, by decide +kernel, by decide +kernel⟩
def w__law_boards : DL.Env → W Fl :=
  (seqW (asgW 1 (lstW (consW (tupW nilW) nilW)))
  (seqW (forW (rangeI1 (varW 0)) (tName 2) (seqW (asgW 3 (cW (.lst [])))
  (seqW (forW (seqI (varW 1)) (tName 4) (asgW 3 (binW addW (varW 3) (lstW (consW (binW addW (varW 4) (tupW (consW (cW (.bl false)) nilW))) (consW (binW addW (varW 4) (tupW (consW (cW (.bl true)) nilW))) nilW))))))
  (asgW 1 (varW 3)))))
  (retW (varW 1))))
def m__law_boards : List D → W D := runW 5 w__law_boards
theorem d__law_boards {P : Program} {w : World} {K : PySem.W.Frag} {mg : Str → Option Value} {base : Heap} (T : Txt K mg) (D_ : DefOk K mg "_law_boards" s__law_boards) : FnD P w K mg base "_law_boards" 1 [.v] .v m__law_boards := by
  refine fn_d D_ sc__law_boards 5 rfl rfl (fun _ _ _ _ _ _ us hl => match us, hl with | [_], _ => rfl) (by decide) rfl fun f cdv A outer s pl F H E hr => ?_
  have tk := L2.takes_of (X := cxOf (L2.CX P w) P w K mg base N__law_boards "_law_boards" (defScope s__law_boards) f cdv A outer s H E) rfl rfl rfl rfl
  have nd := sc__law_boards.nd
  exact ⟨[.v, .v, .v, .v, .v], (dss_cons (dsM [.v, .v, .v, .v, .v] (sV 1 nd ((de_lst (da_cons (k := .v) (de_tup da_nil) da_nil))).v_of_n))
    (dss_cons (sFor (L2.passes_of (by rfl)) (di_range1 (by rfl) T.f_range (eV 0)) (gN 2 nd) htN (dssM [.v, .v, .v, .v, .v] (dss_cons (dsM [.v, .v, .v, .v, .v] (sV 3 nd ((de_nil 0)).v_of_n))
    (dss_cons (sFor (L2.passes_of (by rfl)) (di_seq (eV 1)) (gN 4 nd) htN (dssM [.v, .v, .v, .v, .v] (dss_one (sV 3 nd (de_bin op_addA ops_add (eV 3) ((de_lst (da_cons (k := .v) (de_bin op_addA ops_add (eV 4) (de_tup (da_cons (k := .v) de_bl da_nil))) (da_cons (k := .v) (de_bin op_addA ops_add (eV 4) (de_tup (da_cons (k := .v) de_bl da_nil))) da_nil)))).v_of_n)))))
    (dss_one (sV 1 nd (eV 3)))))))
    (dss_one (ds_ret (eV 1)))))⟩

def N__law_rests : List Str := ["_law_told_here", "_law_vote", "_law_boards_here", "_law_house"]
theorem sc__law_rests : FnScope N__law_rests ["_law_told_here", "_law_vote", "_law_boards_here"] (defScope s__law_rests) := ⟨rfl, rfl, rfl, by decide +kernel, rfl, by decide +kernel, by decide +kernel⟩
def w__law_rests : DL.Env → W Fl :=
  (retW (binW eqW (unW lenW (compW [3] (rangeI1 (unW lenW (varW 2))) (tName 3) (blW (binW neW (appW m__law_says (consW (varW 0) (consW (varW 1) (consW (varW 2) (consW (varW 3) nilW))))) (binW ixW (varW 2) (varW 3)))) (varW 3))) (cW (.int 0))))
def m__law_rests : List D → W D := runW 4 w__law_rests
theorem d__law_rests {P : Program} {w : World} {K : PySem.W.Frag} {mg : Str → Option Value} {base : Heap} (T : Txt K mg) (D_ : DefOk K mg "_law_rests" s__law_rests) (F__law_says : FnD P w K mg base "_law_says" 1 [.v, .v, .v, .v] .v m__law_says) : FnD P w K mg base "_law_rests" 2 [.v, .v, .v] .v m__law_rests := by
  refine fn_d D_ sc__law_rests 4 rfl rfl (fun _ _ _ _ _ _ us hl => match us, hl with | [_, _, _], _ => rfl) (by decide) rfl fun f cdv A outer s pl F H E hr => ?_
  have tk := L2.takes_of (X := cxOf (L2.CX P w) P w K mg base N__law_rests "_law_rests" (defScope s__law_rests) f cdv A outer s H E) rfl rfl rfl rfl
  have nd := sc__law_rests.nd
  exact ⟨[.v, .v, .v, .v], (dss_one (ds_ret (de_cmp (op_eqD (hu64 hr)) ops_eq (nomark _) (de_b1 call_lenA uns_len (by rfl) T.f_len ((de_lc [("_law_house", 3)] (by rfl) nd (di_range1 (by rfl) T.f_range (de_b1 call_lenA uns_len (by rfl) T.f_len (eV 2))) (blkOk_by (by kernel_rfl)) (fun _ _ _ _ _ => (gN 3 nd)) (fun _ _ _ _ _ => (dts_one (dt_cmp (op_neD (hu64 hr)) ops_ne (nomark _) (de_call F__law_says (hr.mono (by decide)) (by rfl) takes0 (da_cons (k := .v) (eV 0) (da_cons (k := .v) (eV 1) (da_cons (k := .v) (eV 2) (da_cons (k := .v) (eV 3) da_nil))))) (de_ix (ix_any (hu1 hr)) ops_ix (eV 2) (eV 3) (fun _ _ => (by rfl)))))) (fun _ _ _ _ _ => (eV 3)) (by decide))).v_of_n) de_int)))⟩

def N__law_unlike : List Str := ["_law_first", "_law_second", "_law_vote", "_law_boards_here"]
theorem sc__law_unlike : FnScope N__law_unlike ["_law_first", "_law_second"] (defScope s__law_unlike) := ⟨rfl, rfl, rfl, by decide +kernel, rfl, by decide +kernel, by decide +kernel⟩
def w__law_unlike : DL.Env → W Fl :=
  (seqW (forW (seqI (appW m__law_boards (consW (binW ixW (varW 0) (cW (.int 0))) nilW))) (tName 2) (forW (seqI (appW m__law_boards (consW (unW lenW (binW ixW (varW 0) (cW (.int 1)))) nilW))) (tName 3) (iteW (blW (binW neW (appW m__law_rests (consW (varW 0) (consW (varW 2) (consW (varW 3) nilW)))) (appW m__law_rests (consW (varW 1) (consW (varW 2) (consW (varW 3) nilW)))))) (retW (tupW (consW (varW 2) (consW (varW 3) nilW)))) nextW)))
  (retW (cW .non)))
def m__law_unlike : List D → W D := runW 4 w__law_unlike
theorem d__law_unlike {P : Program} {w : World} {K : PySem.W.Frag} {mg : Str → Option Value} {base : Heap} (T : Txt K mg) (D_ : DefOk K mg "_law_unlike" s__law_unlike) (F__law_boards : FnD P w K mg base "_law_boards" 1 [.v] .v m__law_boards) (F__law_rests : FnD P w K mg base "_law_rests" 2 [.v, .v, .v] .v m__law_rests) : FnD P w K mg base "_law_unlike" 3 [.v, .v] .v m__law_unlike := by
  refine fn_d D_ sc__law_unlike 4 rfl rfl (fun _ _ _ _ _ _ us hl => match us, hl with | [_, _], _ => rfl) (by decide) rfl fun f cdv A outer s pl F H E hr => ?_
  have tk := L2.takes_of (X := cxOf (L2.CX P w) P w K mg base N__law_unlike "_law_unlike" (defScope s__law_unlike) f cdv A outer s H E) rfl rfl rfl rfl
  have nd := sc__law_unlike.nd
  exact ⟨[.v, .v, .v, .v], (dss_cons (sFor (L2.passes_of (by rfl)) (di_seq (de_call F__law_boards (hr.mono (by decide)) (by rfl) tk (da_cons (k := .v) (de_ix (ix_any (hu1 hr)) ops_ix (eV 0) de_int (fun _ _ => (by rfl))) da_nil))) (gN 2 nd) htN (dssM [.v, .v, .v, .v] (dss_one (sFor (L2.passes_of (by rfl)) (di_seq (de_call F__law_boards (hr.mono (by decide)) (by rfl) tk (da_cons (k := .v) (de_b1 call_lenA uns_len (by rfl) T.f_len (de_ix (ix_any (hu1 hr)) ops_ix (eV 0) de_int (fun _ _ => (by rfl)))) da_nil))) (gN 3 nd) htN (dssM [.v, .v, .v, .v] (dss_one (ds_if (dt_cmp (op_neD (hu64 hr)) ops_ne (nomark _) (de_call F__law_rests (hr.mono (by decide)) (by rfl) tk (da_cons (k := .v) (eV 0) (da_cons (k := .v) (eV 2) (da_cons (k := .v) (eV 3) da_nil)))) (de_call F__law_rests (hr.mono (by decide)) (by rfl) tk (da_cons (k := .v) (eV 1) (da_cons (k := .v) (eV 2) (da_cons (k := .v) (eV 3) da_nil))))) (dss_one (ds_ret (de_tup (da_cons (k := .v) (eV 2) (da_cons (k := .v) (eV 3) da_nil))))) (dssM [.v, .v, .v, .v] dss_nil))))))))
    (dss_one (ds_ret de_non)))⟩

def N__law_word : List Str := ["_law_kind", "_law_one", "_law_other", "_law_word_here", "error"]
theorem sc__law_word : FnScope N__law_word ["_law_kind", "_law_one", "_law_other"] (defScope s__law_word) := ⟨rfl, rfl, rfl, by decide +kernel, rfl, by decide +kernel, by decide +kernel⟩
def w__law_word : DL.Env → W Fl :=
  (seqW (asgW 3 (cW (.str "told")))
  (seqW (tryAW XS (exprW (callVW [("same_stands", m_same_stands), ("unlike_stand", m_unlike_stand)] (binW ixW (lstW (consW (cW (.glo "same_stands")) (consW (cW (.glo "unlike_stand")) nilW))) (varW 0)) (consW (varW 1) (consW (varW 2) nilW)))) [⟨"NoMatch", ["NoMatch"], fun _ => (asgW 3 (cW (.str "match")))⟩, ⟨"TooMany", ["TooMany"], xfldW 4 3 "most"⟩, ⟨"HouseError", ["BadWeb", "NoMatch", "TooMany"], fun _ => (asgW 3 (cW (.str "other")))⟩])
  (retW (varW 3))))
def m__law_word : List D → W D := runW 5 w__law_word
theorem d__law_word {P : Program} {w : World} {K : PySem.W.Frag} {mg : Str → Option Value} {base : Heap} (T : Txt K mg) (D_ : DefOk K mg "_law_word" s__law_word) (F_same_stands : FnD P w K mg base "same_stands" 5 [.v, .v] .v m_same_stands) (F_unlike_stand : FnD P w K mg base "unlike_stand" 5 [.v, .v] .v m_unlike_stand) : FnD P w K mg base "_law_word" 6 [.v, .v, .v] .v m__law_word := by
  refine fn_d D_ sc__law_word 5 rfl rfl (fun _ _ _ _ _ _ us hl => match us, hl with | [_, _, _], _ => rfl) (by decide) rfl fun f cdv A outer s pl F H E hr => ?_
  have tk := L2.takes_of (X := cxOf (L2.CX P w) P w K mg base N__law_word "_law_word" (defScope s__law_word) f cdv A outer s H E) rfl rfl rfl rfl
  have nd := sc__law_word.nd
  exact ⟨[.v, .v, .v, .v, .v], (dss_cons (dsM [.v, .v, .v, .v, .v] (sV 3 nd de_str))
    (dss_cons (dsM [.v, .v, .v, .v, .v] (ds_tryA (by rfl) (by rfl) tk (fun W pn xe tk2 hp2 => (dxs_one (dx_expr (de_callV (k := 5) (TabOk.cons F_same_stands (by decide) (TabOk.cons F_unlike_stand (by decide) TabOk.nil)) (hr.mono (by decide)) tk2 (de_ix (ix_any (hu1 hr)) ops_ix ((de_lst (da_cons (k := .v) (de_gloF F_same_stands (by rfl)) (da_cons (k := .v) (de_gloF F_unlike_stand (by rfl)) da_nil)))).v_of_n (eV 0) (fun _ _ => (by rfl))) (da_cons (k := .v) (eV 1) (da_cons (k := .v) (eV 2) da_nil)))))) (DHsA.cons (by rfl) (by decide) T.cl_NoMatch (fun _ _ _ => (dssM [.v, .v, .v, .v, .v] (dss_one (sV 3 nd de_str)))) (DHsA.fld (i := 4) (j := 3) (by rfl) (by decide) T.cl_TooMany T.fx_TooMany_most nd (by rfl) (by rfl) (by rfl) (.inl (by rfl)) (by first | exact .inl rfl | exact .inr rfl) (Nat.le_of_ble_eq_true (by rfl)) (Nat.le_of_ble_eq_true (by rfl)) (.inl (by rfl)) (by decide) (by decide) (by rfl) (by rfl) (by rfl) (DHsA.cons (by rfl) (by decide) T.cl_HouseError (fun _ _ _ => (dssM [.v, .v, .v, .v, .v] (dss_one (sV 3 nd de_str)))) DHsA.nil)))))
    (dss_one (ds_ret (eV 3)))))⟩

def N__law_draw : List Str := ["_law_pool_here", "_law_many", "_law_cells", "_law_digit", "_law_mixed"]
theorem sc__law_draw : FnScope N__law_draw ["_law_pool_here", "_law_many"] (defScope s__law_draw) := ⟨rfl, rfl, rfl, by decide +kernel, rfl, by decide +kernel, by decide +kernel⟩
theorem d__law_draw {P : Program} {w : World} {K : PySem.W.Frag} {mg : Str → Option Value} {base : Heap} (T : Txt K mg) (D_ : DefOk K mg "_law_draw" s__law_draw) : FnD P w K mg base "_law_draw" 1 [.v, .v] .v drawW := by
  refine fn_draw D_ sc__law_draw rfl rfl (fun _ _ _ _ _ _ us hl => match us, hl with | [_, _], _ => rfl) fun f cdv A outer s H E hr => ?_
  have nd := sc__law_draw.nd
  exact pss_cons (ps_asg (pe_op op_add (pe_ix ix_list (pv 0) pe_int (fun _ _ => (by rfl))) pe_int) (pg_sub (pv 0) pe_int set_list))
    (pss_cons (ps_set (i := 2) nd (by rfl) (.inl (by rfl)) (pe_ix ix_list (pv 0) pe_int (fun _ _ => (by rfl))))
    (pss_cons (ps_if (pt_cmpR op_gt (pe_callB call_len (by rfl) T.f_len boot_len (pa_cons (pv 2) pa_nil)) pe_int (nomark _))
      (pss_cons (ps_set (i := 3) nd (by rfl) (.inl (by rfl)) (pe_op op_mod (pe_callTy call_int1 (by rfl) T.f_int (by decide +kernel) (pa_cons (pe_ix ix_list (pv 2) pe_int (fun _ _ => (by rfl))) pa_nil)) (pv 1)))
      (pss_cons (ps_asg (pe_op op_fdiv (pe_callTy call_int1 (by rfl) T.f_int (by decide +kernel) (pa_cons (pe_ix ix_list (pv 2) pe_int (fun _ _ => (by rfl))) pa_nil)) (pv 1)) (pg_sub (pv 2) pe_int set_list))
      (pss_cons (ps_if (pt_cmpR (op_eqD (hu64 hr)) (pe_ix ix_list (pv 2) pe_int (fun _ _ => (by rfl))) pe_int (nomark _)) (pss_one (ps_expr (pe_bm PySem.F.plainAttrs_list PySem.F.slot_list_pop PySem.F.type_list_pop mt_popAt (pv 2) (pa_cons pe_int pa_nil)))) pss_nil)
      (pss_one (ps_ret (pv 3)))))) pss_nil)
    (pss_cons (ps_set (i := 4) nd (by rfl) (.inl (by rfl)) (pe_op op_mod (pe_callTy call_int1 (by rfl) T.f_int (by decide +kernel) (pa_cons (pe_op op_mul (pe_op op_add (pe_ix ix_list (pv 0) pe_int (fun _ _ => (by rfl))) (pe_op op_mul pe_int (pe_ix ix_list (pv 0) pe_int (fun _ _ => (by rfl))))) pe_int) pa_nil)) pe_int))
    (pss_cons (ps_set (i := 4) nd (by rfl) (.inl (by rfl)) (pe_op op_mod (pe_callTy call_int1 (by rfl) T.f_int (by decide +kernel) (pa_cons (pe_op op_mul (pv 4) (pe_op op_add (pe_op op_fdiv (pv 4) pe_int) pe_int)) pa_nil)) pe_int))
    (pss_cons (ps_set (i := 4) nd (by rfl) (.inl (by rfl)) (pe_op op_mod (pe_callTy call_int1 (by rfl) T.f_int (by decide +kernel) (pa_cons (pe_op op_mul (pv 4) (pe_op op_add (pe_op op_fdiv (pv 4) pe_int) pe_int)) pa_nil)) pe_int))
    (pss_one (ps_ret (pe_op op_mod (pe_callTy call_int1 (by rfl) T.f_int (by decide +kernel) (pa_cons (pe_op op_fdiv (pv 4) pe_int) pa_nil)) (pv 1)))))))))

def N_law : List Str := ["_law_script", "_law_pool_here", "_law_turn", "_law_first", "_law_houses", "_law_at", "_law_kind", "_law_k", "_law_house", "_law_second", "_law_one", "_law_other", "_law_due", "_law_bent", "_law_single", "_law_pairs", "_law_pair"]
theorem sc_law : FnScope N_law ["_law_script"] (defScope s_law) := ⟨rfl, rfl, rfl, by decide +kernel, rfl, by decide +kernel, by decide +kernel⟩
def w_pool : DL.Env → W D := (appW m__law_pool (consW (varW 0) nilW))
def w_law : DL.Env → W Fl :=
  (seqW (forW (rangeI1 (cW (.int 2))) (tName 2) (seqW (asgW 3 (appW m__law_told (consW (varW 1) (consW (cW (.int 4)) (consW (cW (.int 4)) nilW)))))
  (seqW (asgW 4 (unW (lstOfW .v) (binW ixW (varW 3) (cW (.int 1)))))
  (seqW (iteW (blW (binW gtW (unW lenW (varW 4)) (cW (.int 0)))) (seqW (asgW 5 (appW m__law_draw (consW (varW 1) (consW (unW lenW (varW 4)) nilW))))
  (seqW (asgW 6 (appW m__law_draw (consW (varW 1) (consW (cW (.int 3)) nilW))))
  (iteW (blW (binW eqW (varW 6) (cW (.int 0)))) (setIxW 4 (varW 5) (unW (tupOfW .v) (unW (sortW .v) (binW addW (sliceW (binW ixrW (varW 4) (varW 5)) (partW (cW (.int 1))) noPartW) (tupW (consW (appW m__law_holder (consW (varW 1) (consW (binW ixW (varW 3) (cW (.int 0))) (consW (unW lenW (varW 4)) (consW (cW (.int 3)) nilW))))) nilW)))))) (iteW (andT (blW (binW eqW (varW 6) (cW (.int 1)))) (blW (binW ltW (unW lenW (binW ixrW (varW 4) (varW 5))) (cW (.int 6))))) (setIxW 4 (varW 5) (unW (tupOfW .v) (unW (sortW .v) (binW addW (binW addW (binW ixrW (varW 4) (varW 5)) (binW ixrW (varW 4) (varW 5))) (sliceW (binW ixrW (varW 4) (varW 5)) noPartW (partW (cW (.int 1)))))))) (iteW (blW (binW eqW (varW 6) (cW (.int 2)))) (asgW 4 (compW [8] (seqIr (varW 4)) (tName 8) yesW (unW (tupOfW .v) (unW (sortW .v) (compW [7] (rangeI1 (cW (.int 3))) (tName 7) yesW (appW m__law_holder (consW (varW 1) (consW (binW ixW (varW 3) (cW (.int 0))) (consW (unW lenW (varW 4)) (consW (cW (.int 3)) nilW)))))))))) nextW))))) nextW)
  (seqW (asgW 9 (tupW (consW (binW ixW (varW 3) (cW (.int 0))) (consW (unW (tupOfW .r) (varW 4)) nilW))))
  (seqW (parW 10 11 (appW m__law_web (consW (varW 3) nilW)) (appW m__law_web (consW (varW 9) nilW)))
  (seqW (asgW 12 (appW m__law_unlike (consW (varW 3) (consW (varW 9) nilW))))
  (seqW (iteW (orT (blW (binW neW (appW m_unlike_stand (consW (varW 10) (consW (varW 11) nilW))) (varW 12))) (orT (blW (binW neW (appW m_same_stands (consW (varW 10) (consW (varW 11) nilW))) (binW isW (varW 12) (cW .non)))) (notT (blW (unW (isiW "bool") (appW m_same_stands (consW (varW 10) (consW (varW 11) nilW)))))))) (retW (cW (.bl false))) nextW)
  (iteW (orT (blW (binW neW (appW m_unlike_stand (consW (varW 11) (consW (varW 10) nilW))) (varW 12))) (blW (binW isnW (appW m_unlike_stand (consW (varW 10) (consW (varW 10) nilW))) (cW .non)))) (retW (cW (.bl false))) nextW)))))))))
  (seqW (iteW (blW (binW eqW (appW m__law_draw (consW (varW 1) (consW (cW (.int 12)) nilW))) (cW (.int 0)))) (seqW (asgW 4 (compW [8] (rangeI1 (cW (.int 8))) (tName 8) yesW (unW (tupOfW .v) (unW (sortW .v) (compW [7] (rangeI1 (binW ixW (lstW (consW (cW (.int 1)) (consW (cW (.int 3)) nilW))) (appW m__law_draw (consW (varW 1) (consW (cW (.int 2)) nilW))))) (tName 7) yesW (appW m__law_holder (consW (varW 1) (consW (cW (.int 2)) (consW (cW (.int 8)) (consW (cW (.int 2)) nilW))))))))))
  (seqW (asgW 13 (unW (lstOfW .r) (varW 4)))
  (seqW (asgW 5 (appW m__law_draw (consW (varW 1) (consW (cW (.int 8)) nilW))))
  (seqW (setIxW 13 (varW 5) (unW (tupOfW .v) (unW (sortW .v) (binW addW (sliceW (binW ixrW (varW 13) (varW 5)) (partW (cW (.int 1))) noPartW) (tupW (consW (appW m__law_holder (consW (varW 1) (consW (cW (.int 2)) (consW (cW (.int 8)) (consW (cW (.int 2)) nilW))))) nilW))))))
  (seqW (asgTW (tupW (consW (tupW (consW (cW (.int 2)) (consW (unW (tupOfW .r) (varW 4)) nilW))) (consW (tupW (consW (cW (.int 2)) (consW (unW (tupOfW .r) (varW 13)) nilW))) nilW))) (tTup' (tCons' (tName 3) (tCons' (tName 9) tNil'))))
  (iteW (blW (binW neW (appW m_unlike_stand (consW (appW m__law_web (consW (varW 3) nilW)) (consW (appW m__law_web (consW (varW 9) nilW)) nilW))) (appW m__law_unlike (consW (varW 3) (consW (varW 9) nilW))))) (retW (cW (.bl false))) nextW)))))) nextW)
  (seqW (asgW 14 (tupW (consW (tupW (consW (cW (.str "f")) (consW (cW (.int 0)) nilW))) nilW)))
  (seqW (asgW 15 (lstW (consW (tupW (consW (makeW "Web" m_Web___init__ (consW (cW (.int 1)) (consW (tupW (consW (varW 14) nilW)) nilW))) (consW (makeW "Web" m_Web___init__ (consW (cW (.int 2)) (consW (tupW (consW (varW 14) nilW)) nilW))) nilW))) (consW (tupW (consW (makeW "Web" m_Web___init__ (consW (cW (.int 1)) (consW (tupW (consW (varW 14) nilW)) nilW))) (consW (makeW "Web" m_Web___init__ (consW (cW (.int 1)) (consW (tupW nilW) nilW))) nilW))) (consW (tupW (consW (makeW "Web" m_Web___init__ (consW (cW (.int 1)) (consW (binW repAW (tupW (consW (varW 14) nilW)) (cW (.int 9))) nilW))) (consW (makeW "Web" m_Web___init__ (consW (cW (.int 1)) (consW (binW repAW (tupW (consW (varW 14) nilW)) (cW (.int 9))) nilW))) nilW))) (consW (tupW (consW (makeW "Web" m_Web___init__ (consW (cW (.int 1)) (consW (binW repAW (tupW (consW (varW 14) nilW)) (cW (.int 9))) nilW))) (consW (makeW "Web" m_Web___init__ (consW (cW (.int 1)) (consW (binW repAW (tupW (consW (varW 14) nilW)) (cW (.int 8))) nilW))) nilW))) nilW))))))
  (seqW (forW (rangeI1 (cW (.int 2))) (tName 6) (iteW (blW (binW neW (compW [16] (seqI (varW 15)) (tName 16) yesW (appW m__law_word (consW (varW 6) (consW (binW ixW (varW 16) (cW (.int 0))) (consW (binW ixW (varW 16) (cW (.int 1))) nilW))))) (lstW (consW (cW (.str "match")) (consW (cW (.str "match")) (consW (cW (.int 8)) (consW (cW (.str "match")) nilW))))))) (retW (cW (.bl false))) nextW))
  (retW (binW isbW (appW m_same_stands (consW (makeW "Web" m_Web___init__ (consW (cW (.int 1)) (consW (binW repAW (tupW (consW (varW 14) nilW)) (cW (.int 8))) nilW))) (consW (makeW "Web" m_Web___init__ (consW (cW (.int 1)) (consW (binW repAW (tupW (consW (binW repAW (varW 14) (cW (.int 3))) nilW)) (cW (.int 8))) nilW))) nilW))) (cW (.bl true)))))))))
theorem d_law {P : Program} {w : World} {K : PySem.W.Frag} {mg : Str → Option Value} {base : Heap} (T : Txt K mg) {fa : Addr} {fd : FuncData} (D_ : FunD K "law" "law" (defArgs s_law) (defBody s_law) (defScope s_law) [] [] fa fd) {A_Web___init__ : Addr} (F_Web___init__ : FnM P w K mg base A_Web___init__ 5 2 [.v, .v] m_Web___init__) (F__law_draw : FnD P w K mg base "_law_draw" 1 [.v, .v] .v m__law_draw) (F__law_holder : FnD P w K mg base "_law_holder" 2 [.v, .v, .v, .v] .v m__law_holder) (F__law_pool : FnD P w K mg base "_law_pool" 1 [.v] .v m__law_pool) (F__law_told : FnD P w K mg base "_law_told" 3 [.v, .v, .v] .v m__law_told) (F__law_unlike : FnD P w K mg base "_law_unlike" 3 [.v, .v] .v m__law_unlike) (F__law_web : FnD P w K mg base "_law_web" 7 [.v] .v m__law_web) (F__law_word : FnD P w K mg base "_law_word" 6 [.v, .v, .v] .v m__law_word) (F_same_stands : FnD P w K mg base "same_stands" 5 [.v, .v] .v m_same_stands) (F_unlike_stand : FnD P w K mg base "unlike_stand" 5 [.v, .v] .v m_unlike_stand) (mk_Web : ∃ Cl, mg "Web" = some (.ref Cl) ∧ Mk K Cl A_Web___init__)
    (hp : ∀ ns : List Int, ns.length ≤ 63 → ∀ Q : D → Prop, (∀ d, poolD d → Q d) → w_pool (some (.scr ns) :: List.replicate 16 none) Q noX) (hl : ∀ Q : Fl → Prop, Q (.ret (.bl true)) → w_law (none :: some .pool :: List.replicate 15 none) Q noX) : FnOk P w K mg base (L2.CX P w) 8 fa fd ["_law_script"] (spLaw K) := by
  refine law_ok (n := 15) D_ sc_law rfl rfl (fun f cdv A outer s H E hr C => ?_) (fun f cdv A outer s H E hr C => ?_) hp hl
  · have tk := L2.takes_of (X := cxOf (L2.CX P w) P w K mg base N_law "law" (defScope s_law) f cdv A outer s H E) rfl rfl rfl rfl
    have nd := sc_law.nd
    exact dsM _ (sV 1 nd (de_call F__law_pool (hr.mono (by decide)) (by rfl) tk (da_cons (k := .v) (eV 0) da_nil)))
  · have tk := L2.takes_of (X := cxOf (L2.CX P w) P w K mg base N_law "law" (defScope s_law) f cdv A outer s H E) rfl rfl rfl rfl
    have nd := sc_law.nd
    exact ⟨[.v, .v, .v, .v, .v, .v, .v, .v, .v, .v, .v, .v, .v, .v, .v, .v, .v], (dss_cons (sFor (L2.passes_of (by rfl)) (di_range1 (by rfl) T.f_range de_int) (gN 2 nd) htN (dssM [.v, .v, .v, .v, .v, .v, .v, .v, .v, .v, .v, .v, .v, .v, .v, .v, .v] (dss_frz 4 (dss_cons (dsM [.v, .v, .v, .v, .v, .v, .v, .v, .v, .v, .v, .v, .v, .v, .v, .v, .v] (sV 3 nd (de_call F__law_told (hr.mono (by decide)) (by rfl) tk (da_cons (k := .v) (eV 1) (da_cons (k := .v) de_int (da_cons (k := .v) de_int da_nil))))))
    (dss_cons (dsM [.v, .v, .v, .v, .o 1, .v, .v, .v, .v, .v, .v, .v, .v, .v, .v, .v, .v] (sO 4 nd (de_t1 (call_listA (by rfl)) uns_lst (by rfl) T.f_list (de_ix (ix_any (hu1 hr)) ops_ix (eV 3) de_int (fun _ _ => (by rfl))))))
    (dss_cons (ds_if (dt_cmp op_gt (ops_cmp (fun i j => decide (j < i))) (nomark _) (de_b1 call_lenA uns_len (by rfl) T.f_len (eR 4)) de_int) (dssM [.v, .v, .v, .v, .o 1, .v, .v, .v, .v, .v, .v, .v, .v, .v, .v, .v, .v] (dss_cons (dsM [.v, .v, .v, .v, .o 1, .v, .v, .v, .v, .v, .v, .v, .v, .v, .v, .v, .v] (sV 5 nd (de_call F__law_draw (hr.mono (by decide)) (by rfl) tk (da_cons (k := .v) (eV 1) (da_cons (k := .v) (de_b1 call_lenA uns_len (by rfl) T.f_len (eR 4)) da_nil)))))
    (dss_cons (dsM [.v, .v, .v, .v, .o 1, .v, .v, .v, .v, .v, .v, .v, .v, .v, .v, .v, .v] (sV 6 nd (de_call F__law_draw (hr.mono (by decide)) (by rfl) tk (da_cons (k := .v) (eV 1) (da_cons (k := .v) de_int da_nil)))))
    (dss_one (ds_if (dt_cmp (op_eqD (hu64 hr)) ops_eq (nomark _) (eV 6) de_int) (dssM [.v, .v, .v, .v, .o 1, .v, .v, .v, .v, .v, .v, .v, .v, .v, .v, .v, .v] (dss_one (ds_setIx (i := 4) (by rfl) (by rfl) (.inr (.inl (by rfl))) (de_t1 call_tuple_of uns_tup (by rfl) T.f_tuple ((de_b1 (cr_sortA (by rfl) (hu62 hr)) uns_sort (by rfl) T.f_sorted (de_bin op_addA ops_add (de_slice (de_ix (ix_any (hu1 hr)) ops_ixr (eR 4) (eV 5) (fun _ _ => (by rfl))) (dp_some de_int) dp_none) (de_tup (da_cons (k := .v) (de_call F__law_holder (hr.mono (by decide)) (by rfl) tk (da_cons (k := .v) (eV 1) (da_cons (k := .v) (de_ix (ix_any (hu1 hr)) ops_ix (eV 3) de_int (fun _ _ => (by rfl))) (da_cons (k := .v) (de_b1 call_lenA uns_len (by rfl) T.f_len (eR 4)) (da_cons (k := .v) de_int da_nil))))) da_nil))))).v_of_n) (eV 5)))) (dssM [.v, .v, .v, .v, .o 1, .v, .v, .v, .v, .v, .v, .v, .v, .v, .v, .v, .v] (dss_one (ds_if (dw_and (dt_cmp (op_eqD (hu64 hr)) ops_eq (nomark _) (eV 6) de_int) (dw_and1 (dt_cmp op_lt (ops_cmp (fun i j => decide (i < j))) (nomark _) (de_b1 call_lenA uns_len (by rfl) T.f_len (de_ix (ix_any (hu1 hr)) ops_ixr (eR 4) (eV 5) (fun _ _ => (by rfl)))) de_int))).t (dssM [.v, .v, .v, .v, .o 1, .v, .v, .v, .v, .v, .v, .v, .v, .v, .v, .v, .v] (dss_one (ds_setIx (i := 4) (by rfl) (by rfl) (.inr (.inl (by rfl))) (de_t1 call_tuple_of uns_tup (by rfl) T.f_tuple ((de_b1 (cr_sortA (by rfl) (hu62 hr)) uns_sort (by rfl) T.f_sorted (de_bin op_addA ops_add (de_bin op_addA ops_add (de_ix (ix_any (hu1 hr)) ops_ixr (eR 4) (eV 5) (fun _ _ => (by rfl))) (de_ix (ix_any (hu1 hr)) ops_ixr (eR 4) (eV 5) (fun _ _ => (by rfl)))) (de_slice (de_ix (ix_any (hu1 hr)) ops_ixr (eR 4) (eV 5) (fun _ _ => (by rfl))) dp_none (dp_some de_int))))).v_of_n) (eV 5)))) (dssM [.v, .v, .v, .v, .o 1, .v, .v, .v, .v, .v, .v, .v, .v, .v, .v, .v, .v] (dss_one (ds_if (dt_cmp (op_eqD (hu64 hr)) ops_eq (nomark _) (eV 6) de_int) (dssM [.v, .v, .v, .v, .o 1, .v, .v, .v, .v, .v, .v, .v, .v, .v, .v, .v, .v] (dss_one (sO 4 nd (de_lc [("_law_house", 8)] (by rfl) nd (di_seqR (by rfl) (eR 4)) (blkOk_by (by kernel_rfl)) (fun _ _ _ _ _ => (gN 8 nd)) (fun _ _ _ _ _ => dts_nil) (fun _ _ _ _ _ => (de_t1 call_tuple_of uns_tup (by rfl) T.f_tuple ((de_b1 (cr_sortA (by rfl) (hu62 hr)) uns_sort (by rfl) T.f_sorted ((de_lc [("_law_k", 7)] (by rfl) nd (di_range1 (by rfl) T.f_range de_int) (blkOk_by (by kernel_rfl)) (fun _ _ _ _ _ => (gN 7 nd)) (fun _ _ _ _ _ => dts_nil) (fun _ _ _ _ _ => (de_call F__law_holder (hr.mono (by decide)) (by rfl) takes0 (da_cons (k := .v) (eV 1) (da_cons (k := .v) (de_ix (ix_any (hu1 hr)) ops_ix (eV 3) de_int (fun _ _ => (by rfl))) (da_cons (k := .v) (de_b1 call_lenA uns_len (by rfl) T.f_len (eR 4)) (da_cons (k := .v) de_int da_nil)))))) (by decide))).v_of_n)).v_of_n)) (by decide))))) (dssM [.v, .v, .v, .v, .o 1, .v, .v, .v, .v, .v, .v, .v, .v, .v, .v, .v, .v] dss_nil)))))))))))) (dssM [.v, .v, .v, .v, .o 1, .v, .v, .v, .v, .v, .v, .v, .v, .v, .v, .v, .v] dss_nil))
    (dss_cons (dsM [.v, .v, .v, .v, .o 1, .v, .v, .v, .v, .v, .v, .v, .v, .v, .v, .v, .v] (sV 9 nd (de_tup (da_cons (k := .v) (de_ix (ix_any (hu1 hr)) ops_ix (eV 3) de_int (fun _ _ => (by rfl))) (da_cons (k := .v) (de_t1 call_tuple_of uns_tup (by rfl) T.f_tuple (eR 4)) da_nil)))))
    (dss_cons (dsM [.v, .v, .v, .v, .o 1, .v, .v, .v, .v, .v, .v, .v, .v, .v, .v, .v, .v] (ds_par (i := 10) (j := 11) (by rfl) nd (by rfl) (by rfl) (by decide) (by rfl) (by rfl) (de_call F__law_web (hr.mono (by decide)) (by rfl) tk (da_cons (k := .v) (eV 3) da_nil)) (de_call F__law_web (hr.mono (by decide)) (by rfl) tk (da_cons (k := .v) (eV 9) da_nil)) (by rfl) (by rfl) (Nat.le_of_ble_eq_true (by rfl)) (Nat.le_of_ble_eq_true (by rfl)) (by rfl)))
    (dss_cons (dsM [.v, .v, .v, .v, .o 1, .v, .v, .v, .v, .v, .v, .v, .v, .v, .v, .v, .v] (sV 12 nd (de_call F__law_unlike (hr.mono (by decide)) (by rfl) tk (da_cons (k := .v) (eV 3) (da_cons (k := .v) (eV 9) da_nil)))))
    (dss_cons (ds_if (dw_or (dt_cmp (op_neD (hu64 hr)) ops_ne (nomark _) (de_call F_unlike_stand (hr.mono (by decide)) (by rfl) tk (da_cons (k := .v) (eV 10) (da_cons (k := .v) (eV 11) da_nil))) (eV 12)) (dw_or (dt_cmp (op_neD (hu64 hr)) ops_ne (nomark _) (de_call F_same_stands (hr.mono (by decide)) (by rfl) tk (da_cons (k := .v) (eV 10) (da_cons (k := .v) (eV 11) da_nil))) (de_cmp op_isN ops_is (nomark _) (eV 12) de_non)) (dw_or1 (dt_not (dt_val (de_isi sub_bool (by rfl) T.f_isinstance (by rfl) T.f_bool (de_call F_same_stands (hr.mono (by decide)) (by rfl) tk (da_cons (k := .v) (eV 10) (da_cons (k := .v) (eV 11) da_nil))))))))).t (dss_one (ds_ret de_bl)) (dssM [.v, .v, .v, .v, .o 1, .v, .v, .v, .v, .v, .v, .v, .v, .v, .v, .v, .v] dss_nil))
    (dss_one (ds_if (dw_or (dt_cmp (op_neD (hu64 hr)) ops_ne (nomark _) (de_call F_unlike_stand (hr.mono (by decide)) (by rfl) tk (da_cons (k := .v) (eV 11) (da_cons (k := .v) (eV 10) da_nil))) (eV 12)) (dw_or1 (dt_cmp op_notN ops_isn (nomark _) (de_call F_unlike_stand (hr.mono (by decide)) (by rfl) tk (da_cons (k := .v) (eV 10) (da_cons (k := .v) (eV 10) da_nil))) de_non))).t (dss_one (ds_ret de_bl)) (dssM [.v, .v, .v, .v, .o 1, .v, .v, .v, .v, .v, .v, .v, .v, .v, .v, .v, .v] dss_nil)))))))))) (by rfl))))
    (dss_cons (ds_if (dt_cmp (op_eqD (hu64 hr)) ops_eq (nomark _) (de_call F__law_draw (hr.mono (by decide)) (by rfl) tk (da_cons (k := .v) (eV 1) (da_cons (k := .v) de_int da_nil))) de_int) (dssM [.v, .v, .v, .v, .v, .v, .v, .v, .v, .v, .v, .v, .v, .v, .v, .v, .v] (dss_frz 13 (dss_frz 4 (dss_cons (dsM [.v, .v, .v, .v, .o 1, .v, .v, .v, .v, .v, .v, .v, .v, .v, .v, .v, .v] (sO 4 nd (de_lc [("_law_house", 8)] (by rfl) nd (di_range1 (by rfl) T.f_range de_int) (blkOk_by (by kernel_rfl)) (fun _ _ _ _ _ => (gN 8 nd)) (fun _ _ _ _ _ => dts_nil) (fun _ _ _ _ _ => (de_t1 call_tuple_of uns_tup (by rfl) T.f_tuple ((de_b1 (cr_sortA (by rfl) (hu62 hr)) uns_sort (by rfl) T.f_sorted ((de_lc [("_law_k", 7)] (by rfl) nd (di_range1 (by rfl) T.f_range (de_ix (ix_any (hu1 hr)) ops_ix ((de_lst (da_cons (k := .v) de_int (da_cons (k := .v) de_int da_nil)))).v_of_n (de_call F__law_draw (hr.mono (by decide)) (by rfl) takes0 (da_cons (k := .v) (eV 1) (da_cons (k := .v) de_int da_nil))) (fun _ _ => (by rfl)))) (blkOk_by (by kernel_rfl)) (fun _ _ _ _ _ => (gN 7 nd)) (fun _ _ _ _ _ => dts_nil) (fun _ _ _ _ _ => (de_call F__law_holder (hr.mono (by decide)) (by rfl) takes0 (da_cons (k := .v) (eV 1) (da_cons (k := .v) de_int (da_cons (k := .v) de_int (da_cons (k := .v) de_int da_nil)))))) (by decide))).v_of_n)).v_of_n)) (by decide))))
    (dss_cons (dsM [.v, .v, .v, .v, .o 1, .v, .v, .v, .v, .v, .v, .v, .v, .o 1, .v, .v, .v] (sO 13 nd (de_t1 (call_listA (by rfl)) uns_lst (by rfl) T.f_list (eR 4))))
    (dss_cons (dsM [.v, .v, .v, .v, .o 1, .v, .v, .v, .v, .v, .v, .v, .v, .o 1, .v, .v, .v] (sV 5 nd (de_call F__law_draw (hr.mono (by decide)) (by rfl) tk (da_cons (k := .v) (eV 1) (da_cons (k := .v) de_int da_nil)))))
    (dss_cons (dsM [.v, .v, .v, .v, .o 1, .v, .v, .v, .v, .v, .v, .v, .v, .o 1, .v, .v, .v] (ds_setIx (i := 13) (by rfl) (by rfl) (.inl (by rfl)) (de_t1 call_tuple_of uns_tup (by rfl) T.f_tuple ((de_b1 (cr_sortA (by rfl) (hu62 hr)) uns_sort (by rfl) T.f_sorted (de_bin op_addA ops_add (de_slice (de_ix (ix_any (hu1 hr)) ops_ixr (eR 13) (eV 5) (fun _ _ => (by rfl))) (dp_some de_int) dp_none) (de_tup (da_cons (k := .v) (de_call F__law_holder (hr.mono (by decide)) (by rfl) tk (da_cons (k := .v) (eV 1) (da_cons (k := .v) de_int (da_cons (k := .v) de_int (da_cons (k := .v) de_int da_nil))))) da_nil))))).v_of_n) (eV 5)))
    (dss_cons (dsM [.v, .v, .v, .v, .o 1, .v, .v, .v, .v, .v, .v, .v, .v, .o 1, .v, .v, .v] (ds_asgT (de_tup (da_cons (k := .v) (de_tup (da_cons (k := .v) de_int (da_cons (k := .v) (de_t1 call_tuple_of uns_tup (by rfl) T.f_tuple (eR 4)) da_nil))) (da_cons (k := .v) (de_tup (da_cons (k := .v) de_int (da_cons (k := .v) (de_t1 call_tuple_of uns_tup (by rfl) T.f_tuple (eR 13)) da_nil))) da_nil))) (gT (dgs_cons (gN 3 nd) (dgs_cons (gN 9 nd) dgs_nil)) (tl1 (tl1 tl0)))))
    (dss_one (ds_if (dt_cmp (op_neD (hu64 hr)) ops_ne (nomark _) (de_call F_unlike_stand (hr.mono (by decide)) (by rfl) tk (da_cons (k := .v) (de_call F__law_web (hr.mono (by decide)) (by rfl) tk (da_cons (k := .v) (eV 3) da_nil)) (da_cons (k := .v) (de_call F__law_web (hr.mono (by decide)) (by rfl) tk (da_cons (k := .v) (eV 9) da_nil)) da_nil))) (de_call F__law_unlike (hr.mono (by decide)) (by rfl) tk (da_cons (k := .v) (eV 3) (da_cons (k := .v) (eV 9) da_nil)))) (dss_one (ds_ret de_bl)) (dssM [.v, .v, .v, .v, .o 1, .v, .v, .v, .v, .v, .v, .v, .v, .o 1, .v, .v, .v] dss_nil)))))))) (by rfl)) (by rfl))) (dssM [.v, .v, .v, .v, .v, .v, .v, .v, .v, .v, .v, .v, .v, .v, .v, .v, .v] dss_nil))
    (dss_cons (dsM [.v, .v, .v, .v, .v, .v, .v, .v, .v, .v, .v, .v, .v, .v, .v, .v, .v] (sV 14 nd (de_tup (da_cons (k := .v) (de_tup (da_cons (k := .v) de_str (da_cons (k := .v) de_int da_nil))) da_nil))))
    (dss_cons (dsM [.v, .v, .v, .v, .v, .v, .v, .v, .v, .v, .v, .v, .v, .v, .v, .v, .v] (sV 15 nd ((de_lst (da_cons (k := .v) (de_tup (da_cons (k := .v) ((de_make mk_Web F_Web___init__ (hr.mono (by decide)) (by rfl) tk (da_cons (k := .v) de_int (da_cons (k := .v) (de_tup (da_cons (k := .v) (eV 14) da_nil)) da_nil)))).v_of_n (da_cons (k := .v) ((de_make mk_Web F_Web___init__ (hr.mono (by decide)) (by rfl) tk (da_cons (k := .v) de_int (da_cons (k := .v) (de_tup (da_cons (k := .v) (eV 14) da_nil)) da_nil)))).v_of_n da_nil))) (da_cons (k := .v) (de_tup (da_cons (k := .v) ((de_make mk_Web F_Web___init__ (hr.mono (by decide)) (by rfl) tk (da_cons (k := .v) de_int (da_cons (k := .v) (de_tup (da_cons (k := .v) (eV 14) da_nil)) da_nil)))).v_of_n (da_cons (k := .v) ((de_make mk_Web F_Web___init__ (hr.mono (by decide)) (by rfl) tk (da_cons (k := .v) de_int (da_cons (k := .v) (de_tup da_nil) da_nil)))).v_of_n da_nil))) (da_cons (k := .v) (de_tup (da_cons (k := .v) ((de_make mk_Web F_Web___init__ (hr.mono (by decide)) (by rfl) tk (da_cons (k := .v) de_int (da_cons (k := .v) (de_bin op_repTA ops_repTA (de_tup (da_cons (k := .v) (eV 14) da_nil)) de_int) da_nil)))).v_of_n (da_cons (k := .v) ((de_make mk_Web F_Web___init__ (hr.mono (by decide)) (by rfl) tk (da_cons (k := .v) de_int (da_cons (k := .v) (de_bin op_repTA ops_repTA (de_tup (da_cons (k := .v) (eV 14) da_nil)) de_int) da_nil)))).v_of_n da_nil))) (da_cons (k := .v) (de_tup (da_cons (k := .v) ((de_make mk_Web F_Web___init__ (hr.mono (by decide)) (by rfl) tk (da_cons (k := .v) de_int (da_cons (k := .v) (de_bin op_repTA ops_repTA (de_tup (da_cons (k := .v) (eV 14) da_nil)) de_int) da_nil)))).v_of_n (da_cons (k := .v) ((de_make mk_Web F_Web___init__ (hr.mono (by decide)) (by rfl) tk (da_cons (k := .v) de_int (da_cons (k := .v) (de_bin op_repTA ops_repTA (de_tup (da_cons (k := .v) (eV 14) da_nil)) de_int) da_nil)))).v_of_n da_nil))) da_nil)))))).v_of_n))
    (dss_cons (sFor (L2.passes_of (by rfl)) (di_range1 (by rfl) T.f_range de_int) (gN 6 nd) htN (dssM [.v, .v, .v, .v, .v, .v, .v, .v, .v, .v, .v, .v, .v, .v, .v, .v, .v] (dss_one (ds_if (dt_cmp (op_neD (hu64 hr)) ops_ne (nomark _) ((de_lc [("_law_pair", 16)] (by rfl) nd (di_seq (eV 15)) (blkOk_by (by kernel_rfl)) (fun _ _ _ _ _ => (gN 16 nd)) (fun _ _ _ _ _ => dts_nil) (fun _ _ _ _ _ => (de_call F__law_word (hr.mono (by decide)) (by rfl) takes0 (da_cons (k := .v) (eV 6) (da_cons (k := .v) (de_ix (ix_any (hu1 hr)) ops_ix (eV 16) de_int (fun _ _ => (by rfl))) (da_cons (k := .v) (de_ix (ix_any (hu1 hr)) ops_ix (eV 16) de_int (fun _ _ => (by rfl))) da_nil))))) (by decide))).v_of_n ((de_lst (da_cons (k := .v) de_str (da_cons (k := .v) de_str (da_cons (k := .v) de_int (da_cons (k := .v) de_str da_nil)))))).v_of_n) (dss_one (ds_ret de_bl)) (dssM [.v, .v, .v, .v, .v, .v, .v, .v, .v, .v, .v, .v, .v, .v, .v, .v, .v] dss_nil)))))
    (dss_one (ds_ret (de_cmp op_isBl ops_isBl (nomark _) (de_call F_same_stands (hr.mono (by decide)) (by rfl) tk (da_cons (k := .v) ((de_make mk_Web F_Web___init__ (hr.mono (by decide)) (by rfl) tk (da_cons (k := .v) de_int (da_cons (k := .v) (de_bin op_repTA ops_repTA (de_tup (da_cons (k := .v) (eV 14) da_nil)) de_int) da_nil)))).v_of_n (da_cons (k := .v) ((de_make mk_Web F_Web___init__ (hr.mono (by decide)) (by rfl) tk (da_cons (k := .v) de_int (da_cons (k := .v) (de_bin op_repTA ops_repTA (de_tup (da_cons (k := .v) (de_bin op_repTA ops_repTA (eV 14) de_int) da_nil)) de_int) da_nil)))).v_of_n da_nil))) de_bl))))))))⟩

end Prf

namespace Prf
open PySem PySem.Spec PyProof.Rows L2 DL
local macro_rules | `(tactic| walk_at "st") => `(tactic| simp only [o_shl, o_shr, o_band, o_bor, o_inv, o_max2, o_min2, k_isi2, o_rng1, o_rng2, k_rH, kRH_e, o_minL, o_maxL, o_repL, o_repA, o_repS, k_ixG, kIG_e, k_pop, kPop_e, k_dc, kDc_e, o_sortKT, o_sortN, o_sortSet, k_seq, kSeq_n, kSeq_b, kSeq_c, kSeq_r, optK_s, kVar_s, k_var, k_c, k_un, kUn_e, k_bin, kB1_e, kB2_e, k_nil, k_cons, kC1_e, kC2_e, k_app, kApp_e, kBl_e, k_bl, kTr_b, kTr_i, kTr_n, k_tr, k_not, kNot_e, k_and, kAnd_t, kAnd_f, k_or, kOr_t, kOr_f, k_andV, kAndV_t, kAndV_f, k_orV, kOrV_t, kOrV_f, k_notV, kNotV_e, k_if, kIf_t, kIf_f, k_up, kUp_e, k_tup, kTup_e, k_lst, kLst_e, k_next, k_brk, k_cont, k_asg, kAsg_e, k_expr, kExp_e, k_ret, kRet_e, k_retN, kIte_t, kIte_f, k_for, kFor_e, k_comp, kComp_e, k_yes, k_tName, k_tTup, k_tCons, kTC_e, k_tNil, kNx_e, k_asgT, kAT_e, k_par, kP1_e, kP2_e, kSq_e, k_sq, seqB_t, seqB_l, imK_e, kSqr_e, k_sqr, enK_e, kEn_e, k_en, kR1_e, k_r1, k_r2, kR21_e, kR22_e, k_zip, kZ1_e, kZ2_l, kZ2_t, k_chain, kCh1_e, kCh2_e, kCh2_t, kCh2_f, kCh3_e, k_slice, kSl1_e, kSl2_e, kSl3_e, k_noPart, k_part, kPart_e, k_run, kRun_r, kRun_n, k_runM, kRunM_n, kLA_s, k_append, kApd1_e, kApd2_e, k_extend, kExt1_e, kExt2_e, k_setIx, kSix0_e, kSix1_e, kSix2_e, kSix3_e, kDA_s, k_put, kPut0_e, kPut1_e, kPut2_i, kPut2_s, k_aug, kAug0_s, kAug1_e, kAug2_e, k_len, lenB_t, lenB_l, lenB_d, k_ix, k_ixr, k_fld, kB_e, kBn_e, k_in, k_nin, k_eq, k_ne, k_isi, k_is, k_isn, nonB, o_add, o_addT, o_addL, o_sub, o_mul, o_div, o_mod, o_pow, o_lt, o_le, o_gt, o_ge, o_int, o_intB, o_abs, o_neg, o_tup, o_tupT, o_tupR, o_tupTR, o_lst, o_lstR, o_lstT, o_lstTR, o_lstD, o_sort, o_sortR, o_sortT, o_sortTR, o_sortD, o_ord, o_sortIt, upL_v, upOk_v, List.getElem?_cons_zero, List.getElem?_cons_succ, List.set_cons_zero, List.set_cons_succ, List.map_cons, List.map_nil, List.cons_append, List.nil_append, List.length_cons, List.length_nil, List.replicate, wipeD, kLoop_n, kLoop_c, kLoop_b, kLoop_r, kBody_e, k_make, kMake_e, kOA_s, k_setFld, kSF0_e, kSF1_e, k_meth, kMe0_e, kMe1_e, kMe2_e, k_get, kGet0_e, kGet1_e, kGet2_i, kGet2_s, k_rep, k_raise, k_try, kTry_e, handW_n, k_raise1, kRaise1_e, k_tryA, kTryA_e, handAW_n, k_zip2, kZw1_e, o_isb, k_callV, kCV0_e, kCV1_e, k_call0, ne_eq, true_and, and_true, Bool.not_true, Bool.not_false, Int.toNat_natCast, decide_true, decide_false])
local macro_rules | `(tactic| walk_at "it") => `(tactic| (rw [k_ite]; walk_at "st"))
structure Hd where
  f : Bool
  n : Nat
  deriving DecidableEq
def hdD (h : Hd) : D := .tup [.str (if h.f then "f" else "h"), .int (h.n : Nat)]
def shD (s : List Hd) : D := .tup (s.map hdD)
def hsD (hs : List (List Hd)) : D := .tup (hs.map shD)
def cntF (s : List Hd) (p : Nat) : Nat := s.countP fun h => h.f && h.n == p
def cntH (s : List Hd) (o : Nat) : Nat := s.countP fun h => !h.f && h.n == o
def personsD (n : Nat) (s : List Hd) : List D := (List.range n).map fun p => .int (cntF s p : Nat)
def cntOf : Option D → Int
  | some (.int c) => c
  | _ => 0
def ownStep (q : List Key × List D) (h : Hd) : List Key × List D := if h.f then q else
  putD q.1 q.2 (.inl (h.n : Nat)) (.int (cntOf (dget q.1 q.2 (.inl (h.n : Nat))) + 1))
def ownF (s : List Hd) : List Key × List D := s.foldl ownStep ([], [])
theorem eqff : eqD (.str "f") (.str "f") = true := by decide +kernel
theorem eqhf : eqD (.str "h") (.str "f") = false := by decide +kernel
theorem plf : DL.plain 50 (.str "f") = true := by decide +kernel
theorem plh : DL.plain 50 (.str "h") = true := by decide +kernel
theorem cntF_snoc (s : List Hd) (h : Hd) (p : Nat) : cntF (s ++ [h]) p = cntF s p + if h.f && h.n == p then 1 else 0 := by
  unfold cntF
  rw [List.countP_append]
  simp [List.countP_cons]
/-- the dict of owners holds counts -/
def OwnOk (q : List Key × List D) (s : List Hd) : Prop := q.1.length = q.2.length ∧ q.1.Nodup ∧ (∀ k ∈ q.1, ∃ o : Nat, k = .inl (o : Int)) ∧ ∀ o : Nat, (dget q.1 q.2 (.inl (o : Int)) : Option D) = if cntH s o = 0 then none else some (.int (cntH s o : Nat))
theorem dget_nil {k : Key} : (dget [] [] k : Option D) = none := rfl
theorem dget_cons {k0 k : Key} {ks : List Key} {d : D} {ds : List D} : (dget (k0 :: ks) (d :: ds) k : Option D) = if k0 = k then some d else dget ks ds k := by
  unfold dget
  rw [List.zip_cons_cons, List.find?_cons]
  by_cases h : k0 = k <;> simp [h]
theorem dget_put {ks : List Key} {ds : List D} (hl : ks.length = ds.length) (k k' : Key) (d : D) : (dget (putD ks ds k d).1 (putD ks ds k d).2 k' : Option D) = if k = k' then some d else dget ks ds k' := by
  induction ks generalizing ds with
  | nil =>
    cases ds with
    | nil => simp [putD, dget_cons, dget_nil]
    | cons => simp at hl
  | cons k0 ks ih =>
    cases ds with
    | nil => simp at hl
    | cons d0 ds =>
      have hl' : ks.length = ds.length := by simpa using hl
      have ih := ih hl'
      unfold putD at ih ⊢
      by_cases h0 : k0 = k
      · subst h0
        simp only [List.any_cons, decide_true, Bool.true_or, if_true, List.zip_cons_cons, List.map_cons]
        rw [dget_cons]
        by_cases h1 : k0 = k'
        · simp [h1]
        · rw [if_neg h1, if_neg h1]
          rw [dget_cons, if_neg h1]
          -- the rest has k0 only beside k'
          have : ∀ (ks : List Key) (ds : List D), (dget ks ((ks.zip ds).map fun p => if p.1 = k0 then d else p.2) k' : Option D) = dget ks ds k' := by
            intro ks
            induction ks with
            | nil => intro ds; rfl
            | cons a ks ih2 =>
              intro ds
              cases ds with
              | nil => rfl
              | cons b ds =>
                simp only [List.zip_cons_cons, List.map_cons]
                rw [dget_cons, dget_cons, ih2 ds]
                by_cases ha : a = k'
                · subst ha
                  simp [Ne.symm h1]
                · simp [ha]
          exact this ks ds
      · simp only [List.any_cons, h0, decide_false, Bool.false_or] at ih ⊢
        by_cases ha : (ks.any fun z => decide (z = k)) = true
        · simp only [ha, if_true, List.zip_cons_cons, List.map_cons, if_neg h0] at ih ⊢
          rw [dget_cons, dget_cons, ih]
          by_cases h1 : k0 = k'
          · subst h1
            simp [Ne.symm h0]
          · simp [h1]
        · simp only [ha, if_false, Bool.false_eq_true] at ih ⊢
          simp only [List.cons_append]
          rw [dget_cons, dget_cons, ih]
          by_cases h1 : k0 = k'
          · subst h1
            simp [Ne.symm h0]
          · simp [h1]
theorem putD_len {ks : List Key} {ds : List D} (hl : ks.length = ds.length) (k : Key) (d : D) : (putD ks ds k d).1.length = (putD ks ds k d).2.length := by
  unfold putD
  split <;> simp [hl]
theorem any_mem {ks : List Key} {k : Key} : (ks.any fun z => decide (z = k)) = true ↔ k ∈ ks := by
  rw [List.any_eq_true]
  exact ⟨fun ⟨z, h1, h2⟩ => by rw [← of_decide_eq_true h2]; exact h1, fun h => ⟨k, h, decide_eq_true rfl⟩⟩
theorem putD_keys {ks : List Key} {ds : List D} (k : Key) (d : D) : (k ∈ ks ∧ (putD ks ds k d).1 = ks) ∨ (k ∉ ks ∧ (putD ks ds k d).1 = ks ++ [k]) := by
  unfold putD
  by_cases h : (ks.any fun z => decide (z = k)) = true
  · exact .inl ⟨any_mem.mp h, by rw [if_pos h]⟩
  · exact .inr ⟨fun z => h (any_mem.mpr z), by rw [if_neg h]⟩
theorem ownF_snoc (s : List Hd) (h : Hd) : ownF (s ++ [h]) = ownStep (ownF s) h := by
  unfold ownF; rw [List.foldl_append]; rfl
theorem own_step {q : List Key × List D} {s : List Hd} (h : Hd) (ok : OwnOk q s) : OwnOk (ownStep q h) (s ++ [h]) := by
  obtain ⟨i1, i2, i3, i4⟩ := ok
  unfold ownStep
  have c : ∀ o, cntH (s ++ [h]) o = cntH s o + if !h.f && h.n == o then 1 else 0 := fun o => by
    unfold cntH
    rw [List.countP_append]
    simp [List.countP_cons]
  by_cases hf : h.f = true
  · rw [if_pos hf]
    refine ⟨i1, i2, i3, fun o => ?_⟩
    rw [i4 o, c o]
    simp [hf]
  · rw [if_neg hf]
    simp only [Bool.not_eq_true] at hf
    refine ⟨putD_len i1 _ _, ?_, ?_, fun o => ?_⟩
    · rcases putD_keys (ks := q.1) (ds := q.2) (.inl (h.n : Int)) (.int (cntOf (dget q.1 q.2 (.inl (h.n : Nat))) + 1)) with ⟨_, e⟩ | ⟨hn, e⟩
      · rw [e]; exact i2
      · rw [e, List.nodup_append]
        refine ⟨i2, by simp, fun a ha b hb e => ?_⟩
        simp at hb
        subst hb e
        contradiction
    · intro k hk
      rcases putD_keys (ks := q.1) (ds := q.2) (.inl (h.n : Int)) (.int (cntOf (dget q.1 q.2 (.inl (h.n : Nat))) + 1)) with ⟨_, e⟩ | ⟨hn, e⟩
      · rw [e] at hk; exact i3 k hk
      · rw [e] at hk
        rcases List.mem_append.mp hk with hk | hk
        · exact i3 k hk
        · simp at hk
          exact ⟨h.n, hk⟩
    · rw [dget_put i1, i4 o, c o, hf]
      by_cases ho : h.n = o
      · subst ho
        rw [if_pos rfl, i4 h.n]
        by_cases h0 : cntH s h.n = 0
        · simp [h0, cntOf]
        · rw [if_neg h0]
          simp [cntOf]
      · have : ¬ ((.inl (h.n : Int) : Key) = .inl (o : Int)) := by
          intro z
          injection z with z
          exact ho (by omega)
        rw [if_neg this]
        simp [ho]
theorem ownF_ok (s : List Hd) : OwnOk (ownF s) s := by
  have : ∀ (s s0 : List Hd) (q : List Key × List D), OwnOk q s0 → OwnOk (s.foldl ownStep q) (s0 ++ s) := by
    intro s
    induction s with
    | nil => intro s0 q h; simpa using h
    | cons h s ih =>
      intro s0 q ok
      have := ih (s0 ++ [h]) (ownStep q h) (own_step h ok)
      simpa using this
  exact this s [] ([], []) ⟨rfl, List.nodup_nil, by simp, fun o => by simp [cntH, dget]⟩
def fldsW : List Str := ["folk", "houses", "kept_folk", "kept_houses", "kept_half"]
def ownL (s : List Hd) : List D := sortD (itemsD (ownF s).1 (ownF s).2)
def webD (c : Str) (n : Nat) (hs : List (List Hd)) : D := .obj c fldsW [.int (n : Nat), hsD hs, .lst (hs.map fun s => .lst (personsD n s)), .lst (hs.map fun s => .lst (ownL s)), .lst (hs.map fun s => .int ((s.length + 1) / 2 : Nat))]
theorem pyL_ints (xs : List Int) : pyL (xs.map D.int) = xs.map PyData.int := by rw [pyL_map, List.map_map]; rfl
def intTup (d : D) : Prop := ∃ xs : List Int, d = .tup (xs.map .int)
theorem plain_int (n : Nat) (i : Int) : DL.plain n (.int i) = true := by cases n <;> rfl
theorem intTup_plain {d : D} (h : intTup d) (n : Nat) : DL.plain (n + 1) d = true := by
  obtain ⟨xs, rfl⟩ := h
  show (xs.map D.int).all (DL.plain n) = true
  rw [List.all_map, List.all_eq_true]
  intro x _
  exact plain_int n x
theorem sortOk_tups {L : List D} (h : ∀ d ∈ L, intTup d) : sortOk L = true := by
  unfold sortOk
  simp only [Bool.and_eq_true, Bool.or_eq_true, List.all_eq_true]
  refine ⟨⟨fun x hx => intTup_plain (h x hx) 49, fun x hx y hy => ?_⟩, .inl fun x hx => ?_⟩
  · obtain ⟨xs, rfl⟩ := h x hx
    obtain ⟨ys, rfl⟩ := h y hy
    unfold alikeD
    show PySem.W.alike (.tuple (pyL (xs.map .int))) (.tuple (pyL (ys.map .int))) = true
    rw [pyL_ints, pyL_ints, PySem.W.alike]
    exact PySem.W.alike_ints xs ys
  · obtain ⟨xs, rfl⟩ := h x hx
    rfl
theorem ownF_ints : ∀ (s : List Hd), ∀ d ∈ (ownF s).2, ∃ c : Int, d = .int c := by
  have : ∀ (s : List Hd) (q : List Key × List D), (∀ d ∈ q.2, ∃ c : Int, d = .int c) → ∀ d ∈ (s.foldl ownStep q).2, ∃ c : Int, d = .int c := by
    intro s
    induction s with
    | nil => intro q h; exact h
    | cons a s ih =>
      intro q h
      refine ih _ fun d hd => ?_
      unfold ownStep at hd
      split at hd
      · exact h d hd
      · unfold putD at hd
        split at hd
        · obtain ⟨p, hp, rfl⟩ := List.mem_map.mp hd
          split
          · exact ⟨_, rfl⟩
          · exact h _ (List.of_mem_zip hp).2
        · rcases List.mem_append.mp hd with hd | hd
          · exact h d hd
          · simp at hd; exact ⟨_, hd⟩
  exact fun s => this s ([], []) (by simp)
theorem items_ints (s : List Hd) : ∀ d ∈ itemsD (ownF s).1 (ownF s).2, intTup d := by
  intro d hd
  unfold itemsD at hd
  obtain ⟨p, hp, rfl⟩ := List.mem_map.mp hd
  obtain ⟨h1, h2⟩ := List.of_mem_zip hp
  obtain ⟨o, e⟩ := (ownF_ok s).2.2.1 p.1 h1
  obtain ⟨c, e2⟩ := ownF_ints s p.2 h2
  exact ⟨[o, c], by rw [e, e2]; rfl⟩
theorem imL_ints {ds : List D} (h : ∀ d ∈ ds, ∃ c : Int, d = .int c) : imL ds = true := by
  rw [imL_all, List.all_eq_true]
  intro d hd
  obtain ⟨c, rfl⟩ := h d hd
  rfl
theorem persons0 (n : Nat) : (rngD 0 n).map (fun _ => D.int 0) = personsD n [] := by
  unfold rngD personsD
  rw [List.map_map]
  apply List.map_congr_left
  intro a _
  simp [cntF]
theorem persons_set (n p : Nat) (s : List Hd) (hp : p < n) : (personsD n s).set p (.int ((cntF s p : Nat) + 1)) = personsD n (s ++ [⟨true, p⟩]) := by
  unfold personsD
  apply List.ext_getElem
  · simp
  · intro i h1 h2
    simp only [List.length_map, List.length_range, List.length_set] at h1 h2
    rw [List.getElem_set]
    simp only [List.getElem_map, List.getElem_range]
    rw [cntF_snoc]
    by_cases h : p = i
    · subst h; simp
    · rw [if_neg h]; simp [h]
theorem persons_h (n p : Nat) (s : List Hd) : personsD n (s ++ [⟨false, p⟩]) = personsD n s := by
  unfold personsD
  apply List.map_congr_left
  intro a _
  rw [cntF_snoc]
  simp
theorem persons_get (n p : Nat) (s : List Hd) (hp : p < n) : (personsD n s)[p]? = some (.int (cntF s p : Nat)) := by
  unfold personsD
  rw [List.getElem?_map, List.getElem?_range hp]
  rfl
theorem ownF_len (s : List Hd) : (ownF s).1.length ≤ s.length := by
  have : ∀ (s : List Hd) (q : List Key × List D), (s.foldl ownStep q).1.length ≤ q.1.length + s.length := by
    intro s
    induction s with
    | nil => intro q; simp
    | cons a s ih =>
      intro q
      refine Nat.le_trans (ih (ownStep q a)) ?_
      have : (ownStep q a).1.length ≤ q.1.length + 1 := by
        unfold ownStep
        split
        · omega
        · rcases putD_keys (ks := q.1) (ds := q.2) (.inl (a.n : Int)) (.int (cntOf (dget q.1 q.2 (.inl (a.n : Nat))) + 1)) with ⟨_, e⟩ | ⟨_, e⟩
          · rw [e]; omega
          · rw [e]; simp
      simp only [List.length_cons]
      omega
  simpa [ownF] using this s ([], [])
/-- holders fit -/
def FitF (n : Nat) (s : List Hd) : Prop := ∀ h ∈ s, h.f = true → h.n < n
theorem keep_house (n : Nat) (hn : n ≤ 16777216) (s : List Hd) (hs : s.length < 16777216) (fit : FitF n s) (a0 a1 a2 a3 : Option D) (x5 x7 x8 : Option D) (p0 : Option D) (E : Xn → Prop) (Q : Fl → Prop)
    (hQ : ∀ y7 y8, Q (.next [a0, a1, a2, a3, some (.lst (personsD n s)), x5, some (.dct (ownF s).1 (ownF s).2), y7, y8])) :
    forL (tTup' (tCons' (tName 7) (tCons' (tName 8) tNil'))) (iteW (blW (binW eqW (varW 7) (cW (.str "f")))) (augIxW 4 (varW 8) (cW (.int 1))) (putW 6 (varW 8) (binW addW (getCW .r (varW 6) (varW 8) (cW (.int 0))) (cW (.int 1))))) (s.map hdD) [a0, a1, a2, a3, some (.lst (personsD n [])), x5, some (.dct [] []), x7, x8] Q E := by
  refine forL_ind (fun i ρ => ∃ y7 y8, ρ = [a0, a1, a2, a3, some (.lst (personsD n (s.take i))), x5, some (.dct (ownF (s.take i)).1 (ownF (s.take i)).2), y7, y8]) _ (fun ρ h => ?_) (fun i x ρ R hx hi hR => ?_) _ ⟨x7, x8, rfl⟩
  · obtain ⟨y7, y8, rfl⟩ := h
    rw [List.length_map, List.take_length]
    exact hQ y7 y8
  · obtain ⟨y7, y8, rfl⟩ := hi
    rw [List.getElem?_map, Option.map_eq_some_iff] at hx
    obtain ⟨h, hx, rfl⟩ := hx
    have htk : s.take (i + 1) = s.take i ++ [h] := by rw [List.take_succ, hx]; rfl
    obtain ⟨f, p⟩ := h
    have hmem : (⟨f, p⟩ : Hd) ∈ s := List.mem_of_getElem? hx
    cases f with
    | true =>
      have hp : p < n := fit _ hmem rfl
      simp [hdD, eqff, plf, augIxW, lstAt, persons_get n p _ hp]
      refine hR _ ⟨some (.str "f"), some (.int (p : Nat)), ?_⟩
      rw [htk, ownF_snoc, ← persons_set n p _ hp]
      simp [ownStep]
    | false =>
      obtain ⟨i1, i2, i3, i4⟩ := ownF_ok (s.take i)
      have hlen : (ownF (s.take i)).1.length < 16777216 := by
        have h1 := ownF_len (s.take i)
        have h2 : (s.take i).length ≤ s.length := by rw [List.length_take]; omega
        omega
      have e4 := i4 p
      have hup : upOk .r (((dget (ownF (s.take i)).1 (ownF (s.take i)).2 (.inl (p : Int)) : Option D)).getD .non) := .inr (by
        rw [e4]; split <;> rfl)
      simp [hdD, eqhf, plf, plh, putW, dctAt, getCW, DL.keyOf, hlen, hup]
      have hR2 : R [a0, a1, a2, a3, some (.lst (personsD n (s.take (i + 1)))), x5, some (.dct (ownF (s.take (i + 1))).1 (ownF (s.take (i + 1))).2), some (.str "h"), some (.int (p : Nat))] := hR _ ⟨_, _, rfl⟩
      rw [htk, persons_h, ownF_snoc] at hR2
      unfold ownStep at hR2
      rw [if_neg (by simp)] at hR2
      simp only at hR2
      rw [e4] at hR2 ⊢
      by_cases h0 : cntH (s.take i) p = 0
      · simp only [h0, if_true] at hR2 ⊢
        simpa [cntOf] using hR2
      · simp only [h0, if_false] at hR2 ⊢
        simpa [cntOf] using hR2
def kF (n : Nat) (hs : List (List Hd)) : List D := hs.map fun s => .lst (personsD n s)
def kH (hs : List (List Hd)) : List D := hs.map fun s => .lst (ownL s)
def kM (hs : List (List Hd)) : List D := hs.map fun s => .int ((s.length + 1) / 2 : Nat)
def webF (c : Str) (n : Nat) (hs ks : List (List Hd)) : D := .obj c fldsW [.int (n : Nat), hsD hs, .lst (kF n ks), .lst (kH ks), .lst (kM ks)]
/-- a web's rows are short, its holders fit -/
structure WebOk (n : Nat) (hs : List (List Hd)) : Prop where
  n1 : n ≤ 1000
  len : hs.length ≤ 1000
  lens : ∀ s ∈ hs, s.length ≤ 1000
  fitF : ∀ s ∈ hs, FitF n s
theorem keep_spec (c : Str) (hc : c = "Web" ∨ c = "RawWeb") (n : Nat) (hs : List (List Hd)) (ok : WebOk n hs) : Pure (m_Web_keep [.obj c [] [], .int (n : Nat), hsD hs]) (webD c n hs) := by
  intro Q E q
  have hcm : c ∈ (["Web", "RawWeb"] : List Str) := by rcases hc with rfl | rfl <;> simp
  have start : ∀ (QF : Fl → Prop), (∀ y3 y4 y5 y6 y7 y8, QF (.next [some (webF c n hs hs), some (.int (n : Nat)), some (hsD hs), y3, y4, y5, y6, y7, y8])) →
      forL (tName 3) (seqW (asgW 4 (compW [5] (rangeI1 (varW 1)) (tName 5) yesW (cW (.int 0))))
  (seqW (asgW 6 (cW (.dct [] [])))
  (seqW (forW (seqI (varW 3)) (tTup' (tCons' (tName 7) (tCons' (tName 8) tNil'))) (iteW (blW (binW eqW (varW 7) (cW (.str "f")))) (augIxW 4 (varW 8) (cW (.int 1))) (putW 6 (varW 8) (binW addW (getCW .r (varW 6) (varW 8) (cW (.int 0))) (cW (.int 1))))))
  (seqW (fldAppendW 0 ["Web", "RawWeb"] "kept_folk" 0 .v (varW 4))
  (seqW (fldAppendW 0 ["Web", "RawWeb"] "kept_houses" 0 .v (unW (sortItW .r) (varW 6)))
  (fldAppendW 0 ["Web", "RawWeb"] "kept_half" 0 .v (binW divW (binW addW (unW lenW (varW 3)) (cW (.int 1))) (cW (.int 2))))))))) (hs.map shD)
      [some (webF c n hs []), some (.int (n : Nat)), some (hsD hs), none, none, none, none, none, none] QF E := by
    intro QF hQ
    refine forL_ind (fun i ρ => ∃ y3 y4 y5 y6 y7 y8, ρ = [some (webF c n hs (hs.take i)), some (.int (n : Nat)), some (hsD hs), y3, y4, y5, y6, y7, y8]) _ (fun ρ h => ?_) (fun i x ρ R hx hi hR => ?_) _ ⟨none, none, none, none, none, none, rfl⟩
    · obtain ⟨y3, y4, y5, y6, y7, y8, rfl⟩ := h
      rw [List.length_map, List.take_length]
      exact hQ ..
    · obtain ⟨y3, y4, y5, y6, y7, y8, rfl⟩ := hi
      rw [List.getElem?_map, Option.map_eq_some_iff] at hx
      obtain ⟨s, hx, rfl⟩ := hx
      have hm : s ∈ hs := List.mem_of_getElem? hx
      have htk : hs.take (i + 1) = hs.take i ++ [s] := by rw [List.take_succ, hx]; rfl
      have hn := ok.n1
      have hl := ok.lens s hm
      have htl : (hs.take i).length ≤ 1000 := by have := ok.len; rw [List.length_take]; omega
      simp
      refine ⟨by omega, ?_⟩
      refine compL_map (fun _ => .int 0) _ (fun x _ => ⟨_, fun Q E q => q, fun Q E q => q⟩) _ _ ?_
      rw [persons0]
      simp [shD, seqB]
      refine keep_house n (by omega) s (by omega) (ok.fitF s hm) _ _ _ _ _ _ _ none _ _ fun y7 y8 => ?_
      have so := sortOk_tups (items_ints s)
      have iu : upL .r (ownF s).2 := .inr (imL_ints (ownF_ints s))
      have l1 : (kF n (hs.take i)).length < 16777216 := by unfold kF; rw [List.length_map]; omega
      have l2 : (kH (hs.take i)).length < 16777216 := by unfold kH; rw [List.length_map]; omega
      have l3 : (kM (hs.take i)).length < 16777216 := by unfold kM; rw [List.length_map]; omega
      have j1 : idxS "kept_folk" fldsW = some 2 := by decide +kernel
      have j2 : idxS "kept_houses" fldsW = some 3 := by decide +kernel
      have j3 : idxS "kept_half" fldsW = some 4 := by decide +kernel
      simp [fldAppendW, objAt, webF, hcm, j1, j2, j3, lvlOk, Kd.lvl, l1, l2, l3, sortItW, so, iu, lenB, CDiv]
      have hR2 := hR _ ⟨some (shD s), some (.lst (personsD n s)), y5, some (.dct (ownF s).1 (ownF s).2), y7, y8, rfl⟩
      rw [htk] at hR2
      simp [webF, kF, kH, kM, shD, ownL, fldsW] at hR2 ⊢
      exact hR2
  unfold m_Web_keep runM w_Web_keep
  have k1 : idxS "folk" [] = none := rfl
  have k2 : idxS "houses" ["folk"] = none := by decide +kernel
  have k3 : idxS "kept_folk" ["folk", "houses"] = none := by decide +kernel
  have k4 : idxS "kept_houses" ["folk", "houses", "kept_folk"] = none := by decide +kernel
  have k5 : idxS "kept_half" ["folk", "houses", "kept_folk", "kept_houses"] = none := by decide +kernel
  simp [setFldW, objAt, hcm, lvlOk, Kd.lvl, putF', k1, k2, k3, k4, k5, canOwn, hsD, seqB]
  exact start _ fun y3 y4 y5 y6 y7 y8 => q
def sortH (s : List Hd) : List Hd := s.mergeSort fun a b => leD (hdD a) (hdD b)
theorem sortH_map (s : List Hd) : sortD (s.map hdD) = (sortH s).map hdD := (List.map_mergeSort (f := hdD) (r := fun a b => leD (hdD a) (hdD b)) (s := leD) fun a _ b _ => rfl).symm
theorem sortH_perm (s : List Hd) : (sortH s).Perm s := List.mergeSort_perm _ _
theorem hd_plain (h : Hd) (n : Nat) : DL.plain (n + 1) (hdD h) = true := by
  obtain ⟨f, p⟩ := h
  have h1 : DL.plain n (.str "f") = true := by
    have : PyData.strOk "f" = true := by decide +kernel
    cases n <;> simp [DL.plain, flat, this]
  have h2 : DL.plain n (.str "h") = true := by
    have : PyData.strOk "h" = true := by decide +kernel
    cases n <;> simp [DL.plain, flat, this]
  cases f <;> simp [hdD, DL.plain, h1, h2, plain_int]
theorem hd_alike (a b : Hd) : alikeD (hdD a) (hdD b) = true := by
  simp [alikeD, hdD, py, pyL, PySem.W.alike, PySem.W.alikeAll]
theorem sortOk_hd (s : List Hd) : sortOk (s.map hdD) = true := by
  unfold sortOk
  simp only [Bool.and_eq_true, Bool.or_eq_true, List.all_eq_true]
  refine ⟨⟨fun x hx => ?_, fun x hx y hy => ?_⟩, .inl fun x hx => ?_⟩
  · obtain ⟨h, _, rfl⟩ := List.mem_map.mp hx
    exact hd_plain h 49
  · obtain ⟨h, _, rfl⟩ := List.mem_map.mp hx
    obtain ⟨h', _, rfl⟩ := List.mem_map.mp hy
    exact hd_alike h h'
  · obtain ⟨h, _, rfl⟩ := List.mem_map.mp hx
    rfl
def wt (s : List Hd) (lot : List Nat) (S : Nat → Bool) : Nat := s.countP fun h => if h.f then decide (h.n ∈ lot) else S h.n
theorem sum_cntF (s : List Hd) : ∀ (lot : List Nat), lot.Nodup → (lot.map fun p => ((cntF s p : Nat) : Int)).sum = ((s.countP fun h => h.f && decide (h.n ∈ lot) : Nat) : Int)
  | [], _ => by simp
  | p :: lot, nd => by
    obtain ⟨n1, n2⟩ := List.nodup_cons.mp nd
    rw [List.map_cons, List.sum_cons, sum_cntF s lot n2]
    unfold cntF
    clear nd
    induction s with
    | nil => simp
    | cons h s ih =>
      simp only [List.countP_cons] at ih ⊢
      have : (if (h.f && decide (h.n ∈ p :: lot)) = true then 1 else 0) = (if (h.f && h.n == p) = true then 1 else 0) + (if (h.f && decide (h.n ∈ lot)) = true then 1 else 0) := by
        cases h.f with
        | false => simp
        | true =>
          by_cases e : h.n = p
          · subst e; simp [n1]
          · simp [e]
      omega
def vD : D → Int
  | .int c => c
  | _ => 0
theorem cntOf_some (d : D) : cntOf (some d) = vD d := by cases d <;> rfl
def tot (S : Key → Bool) (q : List Key × List D) : Int := ((q.1.zip q.2).map fun p => if S p.1 then vD p.2 else 0).sum
theorem putD_cons {k0 k : Key} {ks : List Key} {d0 d : D} {ds : List D} (h : k0 ≠ k) : putD (k0 :: ks) (d0 :: ds) k d = (k0 :: (putD ks ds k d).1, d0 :: (putD ks ds k d).2) := by
  unfold putD
  simp only [List.any_cons, h, decide_false, Bool.false_or]
  split <;> simp [h]
theorem tot_put (S : Key → Bool) (k : Key) : ∀ (ks : List Key) (ds : List D), ks.length = ds.length → ks.Nodup → tot S (putD ks ds k (.int (cntOf (dget ks ds k) + 1))) = tot S (ks, ds) + if S k then 1 else 0
  | [], [], _, _ => by simp [putD, tot, dget, cntOf, vD]
  | [], _ :: _, h, _ => by simp at h
  | _ :: _, [], h, _ => by simp at h
  | k0 :: ks, d0 :: ds, h, nd => by
    obtain ⟨n1, n2⟩ := List.nodup_cons.mp nd
    rw [dget_cons]
    by_cases e : k0 = k
    · subst e
      rw [if_pos rfl, cntOf_some]
      have : putD (k0 :: ks) (d0 :: ds) k0 (.int (vD d0 + 1)) = (k0 :: ks, .int (vD d0 + 1) :: ds) := by
        unfold putD
        simp only [List.any_cons, decide_true, Bool.true_or, if_true, List.zip_cons_cons, List.map_cons]
        congr 1
        congr 1
        have hl : ks.length = ds.length := by simpa using h
        have : ∀ p ∈ ks.zip ds, (if p.1 = k0 then D.int (vD d0 + 1) else p.2) = p.2 := fun p hp => by
          rw [if_neg fun z => n1 (by rw [← z]; exact (List.of_mem_zip hp).1)]
        rw [List.map_congr_left this, List.map_snd_zip]
        omega
      rw [this]
      unfold tot
      simp only [List.zip_cons_cons, List.map_cons, List.sum_cons, vD]
      split <;> omega
    · rw [if_neg e, putD_cons e]
      have ih := tot_put S k ks ds (by simpa using h) n2
      unfold tot at ih ⊢
      simp only [List.zip_cons_cons, List.map_cons, List.sum_cons]
      rw [ih]
      dsimp only
      omega
theorem tot_own (S : Key → Bool) (s : List Hd) : tot S (ownF s) = ((s.countP fun h => !h.f && S (.inl (h.n : Int)) : Nat) : Int) := by
  have : ∀ (s s0 : List Hd) (q : List Key × List D), OwnOk q s0 → tot S (s.foldl ownStep q) = tot S q + ((s.countP fun h => !h.f && S (.inl (h.n : Int)) : Nat) : Int) := by
    intro s
    induction s with
    | nil => intro s0 q ok; simp
    | cons h s ih =>
      intro s0 q ok
      rw [List.foldl_cons, ih (s0 ++ [h]) _ (own_step h ok), List.countP_cons]
      unfold ownStep
      cases hf : h.f with
      | true => simp
      | false =>
        rw [if_neg (by simp), tot_put S _ q.1 q.2 ok.1 ok.2.1, show (q.1, q.2) = q from rfl]
        simp
        split <;> omega
  have h0 := this s [] ([], []) ⟨rfl, List.nodup_nil, by simp, fun o => by simp [cntH, dget]⟩
  unfold ownF
  rw [h0]
  simp [tot]
theorem intsOf_map {α : Type} (f : α → Int) : ∀ l : List α, intsOf (l.map fun a => D.int (f a)) = some (l.map f)
  | [] => rfl
  | a :: l => by rw [List.map_cons, intsOf, intsOf_map f l]; rfl
def pickS (S : Key → Bool) : D → Option D
  | .tup [.int o, d] => if S (.inl o) then some d else none
  | _ => none
theorem sum_pick (S : Key → Bool) : ∀ (L : List D), (∀ d ∈ L, ∃ o c : Int, d = .tup [.int o, .int c]) → ∃ ns, intsOf (L.filterMap (pickS S)) = some ns ∧ ns.sum = (L.map fun d => match d with | .tup [.int o, .int c] => if S (.inl o) then c else 0 | _ => 0).sum
  | [], _ => ⟨[], rfl, rfl⟩
  | d :: L, h => by
    obtain ⟨ns, e1, e2⟩ := sum_pick S L fun x hx => h x (by simp [hx])
    obtain ⟨o, c, rfl⟩ := h d (by simp)
    by_cases hs : S (.inl o) = true
    · refine ⟨c :: ns, ?_, ?_⟩
      · simp only [List.filterMap_cons, pickS, hs, if_true]
        rw [intsOf, e1]
        rfl
      · simp [e2, hs]
    · refine ⟨ns, ?_, ?_⟩
      · simp only [List.filterMap_cons, pickS, hs, if_false, Bool.false_eq_true]
        exact e1
      · simp [e2, hs]
theorem items_pairs (s : List Hd) : ∀ d ∈ itemsD (ownF s).1 (ownF s).2, ∃ o c : Int, d = .tup [.int o, .int c] := by
  intro d hd
  unfold itemsD at hd
  obtain ⟨p, hp, rfl⟩ := List.mem_map.mp hd
  obtain ⟨h1, h2⟩ := List.of_mem_zip hp
  obtain ⟨o, e⟩ := (ownF_ok s).2.2.1 p.1 h1
  obtain ⟨c, e2⟩ := ownF_ints s p.2 h2
  exact ⟨o, c, by rw [e, e2]; rfl⟩
theorem perm_sum {a b : List Int} (h : a.Perm b) : a.sum = b.sum := by
  induction h with
  | nil => rfl
  | cons x _ ih => simp [ih]
  | swap x y l => simp; omega
  | trans _ _ h1 h2 => rw [h1, h2]
theorem sumW_lst {xs : List D} {ns : List Int} {Q : D → Prop} {E : Xn → Prop} (h : intsOf xs = some ns) (q : Q (.int ns.sum)) : sumW (.lst xs) Q E := by
  unfold sumW
  simp only [h]
  exact q
theorem sum_own (S : Key → Bool) (s : List Hd) : ∃ ns, intsOf ((ownL s).filterMap (pickS S)) = some ns ∧ ns.sum = ((s.countP fun h => !h.f && S (.inl (h.n : Int)) : Nat) : Int) := by
  have perm : (ownL s).Perm (itemsD (ownF s).1 (ownF s).2) := List.mergeSort_perm _ _
  obtain ⟨ns, e1, e2⟩ := sum_pick S (ownL s) fun d hd => items_pairs s d (perm.mem_iff.mp hd)
  refine ⟨ns, e1, ?_⟩
  rw [e2, ← tot_own S s]
  have p2 : ((ownL s).map fun d => match d with | .tup [.int o, .int c] => if S (.inl o) then c else 0 | _ => 0).Perm ((itemsD (ownF s).1 (ownF s).2).map fun d => match d with | .tup [.int o, .int c] => if S (.inl o) then c else 0 | _ => 0) := perm.map _
  rw [perm_sum p2]
  unfold tot itemsD
  rw [List.map_map]
  congr 1
  apply List.map_congr_left
  intro p hp
  obtain ⟨h1, h2⟩ := List.of_mem_zip hp
  obtain ⟨o, e⟩ := (ownF_ok s).2.2.1 p.1 h1
  obtain ⟨c, e2⟩ := ownF_ints s p.2 h2
  simp [e, e2, kD, vD]
theorem web_kf (c : Str) (hc : c = "Web" ∨ c = "RawWeb") (n : Nat) (hs : List (List Hd)) : fldB ["Web", "RawWeb"] "kept_folk" (webD c n hs) = some (.lst (kF n hs)) := by
  rcases hc with rfl | rfl <;> rfl
theorem web_kh (c : Str) (hc : c = "Web" ∨ c = "RawWeb") (n : Nat) (hs : List (List Hd)) : fldB ["Web", "RawWeb"] "kept_houses" (webD c n hs) = some (.lst (kH hs)) := by
  rcases hc with rfl | rfl <;> rfl
theorem web_km (c : Str) (hc : c = "Web" ∨ c = "RawWeb") (n : Nat) (hs : List (List Hd)) : fldB ["Web", "RawWeb"] "kept_half" (webD c n hs) = some (.lst (kM hs)) := by
  rcases hc with rfl | rfl <;> rfl
theorem web_folk (c : Str) (hc : c = "Web" ∨ c = "RawWeb") (n : Nat) (hs : List (List Hd)) : fldB ["Web", "RawWeb"] "folk" (webD c n hs) = some (.int (n : Nat)) := by
  rcases hc with rfl | rfl <;> rfl
theorem web_houses (c : Str) (hc : c = "Web" ∨ c = "RawWeb") (n : Nat) (hs : List (List Hd)) : fldB ["Web", "RawWeb"] "houses" (webD c n hs) = some (hsD hs) := by
  rcases hc with rfl | rfl <;> rfl
theorem atI_nat {α : Type} (xs : List α) (i : Nat) (h : i < xs.length) : L2.atI xs (i : Int) = xs[i]? := by
  unfold L2.atI ixN
  rw [if_pos (by omega), if_pos (by omega)]
  rfl
theorem ix_lst (xs : List D) (i : Nat) (h : i < xs.length) : ixB (.lst xs) (.int (i : Nat)) = xs[i]? := atI_nat xs i h
theorem ix_tup (xs : List D) (i : Nat) (h : i < xs.length) : ixB (.tup xs) (.int (i : Nat)) = xs[i]? := atI_nat xs i h
def Good (hs : List (List Hd)) (lot : List Nat) (S : Nat → Bool) (h : Nat) : Prop := ∃ s, hs[h]? = some s ∧ s.length < 2 * wt s lot S
def Closed (hs : List (List Hd)) (lot : List Nat) (S : Nat → Bool) : Prop := ∀ h, Good hs lot S h → S h = true
noncomputable def LF (hs : List (List Hd)) (lot : List Nat) (h : Nat) : Bool := @decide (∀ S, Closed hs lot S → S h = true) (Classical.propDecidable _)
theorem LF_iff {hs : List (List Hd)} {lot : List Nat} {h : Nat} : LF hs lot h = true ↔ ∀ S, Closed hs lot S → S h = true := by
  unfold LF; exact @decide_eq_true_iff _ (Classical.propDecidable _)
theorem LF_lt {hs : List (List Hd)} {lot : List Nat} {h : Nat} (k : LF hs lot h = true) : h < hs.length := by
  have := LF_iff.mp k (fun o => decide (o < hs.length)) fun o ⟨s, e, _⟩ => decide_eq_true (List.getElem?_eq_some_iff.mp e).1
  exact of_decide_eq_true this
structure Snd (hs : List (List Hd)) (lot : List Nat) (L : List Nat) : Prop where
  nd : L.Nodup
  lf : ∀ h ∈ L, LF hs lot h = true
theorem Snd.len {hs : List (List Hd)} {lot L : List Nat} (k : Snd hs lot L) : L.length ≤ hs.length := by
  have := List.Nodup.length_le_of_subset k.nd (l₂ := List.range hs.length) fun h hh => List.mem_range.mpr (LF_lt (k.lf h hh))
  simpa using this
theorem web_hs (c : Str) (hc : c = "Web" ∨ c = "RawWeb") (n : Nat) (hs : List (List Hd)) : fldB ["Web", "RawWeb"] "houses" (webD c n hs) = some (.tup (hs.map shD)) := web_houses c hc n hs
theorem len_hsD (hs : List (List Hd)) : lenB (hsD hs) = some (hs.length : Int) := by simp [lenB, hsD]
def toldD (n : Nat) (hs : List (List Hd)) : D := .tup [.int (n : Nat), hsD hs]
theorem ix_told1 (n : Nat) (hs : List (List Hd)) : ixB (toldD n hs) (.int 1) = some (hsD hs) := rfl
theorem ix_told0 (n : Nat) (hs : List (List Hd)) : ixB (toldD n hs) (.int 0) = some (.int (n : Nat)) := rfl
theorem ix_house (hs : List (List Hd)) (h : Nat) (s : List Hd) (e : hs[h]? = some s) : ixB (hsD hs) (.int (h : Nat)) = some (shD s) := by
  have hlt : h < hs.length := (List.getElem?_eq_some_iff.mp e).1
  unfold hsD
  rw [ix_tup _ _ (by simp; exact hlt)]
  simp [e]
theorem ix_hd0 (h : Hd) : ixB (hdD h) (.int 0) = some (.str (if h.f then "f" else "h")) := rfl
theorem ix_hd1 (h : Hd) : ixB (hdD h) (.int 1) = some (.int (h.n : Nat)) := rfl
theorem eqhh : eqD (.str "h") (.str "h") = true := by decide +kernel
theorem sortH_len (s : List Hd) : (sortH s).length = s.length := (sortH_perm s).length_eq
def holders (n H : Nat) : List Hd := (List.range n).map (fun p => ⟨true, p⟩) ++ (List.range H).map (fun p => ⟨false, p⟩)
structure Fine (n : Nat) (hs : List (List Hd)) : Prop where
  n6 : n ≤ 6
  len : hs.length ≤ 1000
  lens : ∀ s ∈ hs, s.length ≤ 1000
  odd : ∀ s ∈ hs, s.length % 2 = 1
  fitF : ∀ s ∈ hs, FitF n s
theorem Fine.put {n : Nat} {hs : List (List Hd)} (k : Fine n hs) {h i : Nat} {s : List Hd} {x : Hd} (e : hs[h]? = some s) (hx : x.f = true → x.n < n) : Fine n (hs.set h (s.set i x)) := by
  have hm := List.mem_of_getElem? e
  have mem : ∀ t ∈ hs.set h (s.set i x), t ∈ hs ∨ t = s.set i x := fun t ht => List.mem_or_eq_of_mem_set ht
  refine ⟨k.n6, by rw [List.length_set]; exact k.len, fun t ht => ?_, fun t ht => ?_, fun t ht => ?_⟩
  · rcases mem t ht with ht | rfl
    · exact k.lens t ht
    · rw [List.length_set]; exact k.lens s hm
  · rcases mem t ht with ht | rfl
    · exact k.odd t ht
    · rw [List.length_set]; exact k.odd s hm
  · rcases mem t ht with ht | rfl
    · exact k.fitF t ht
    · intro y hy hf
      rcases List.mem_or_eq_of_mem_set hy with hy | rfl
      · exact k.fitF s hm y hy hf
      · exact hx hf
theorem blsOf_map {α : Type} (f : α → Bool) : ∀ l : List α, blsOf (l.map fun a => D.bl (f a)) = some (l.map f)
  | [] => rfl
  | a :: l => by rw [List.map_cons, blsOf, blsOf_map f l]; rfl
theorem allW_map {α : Type} (f : α → Bool) (l : List α) {Q : D → Prop} {E : Xn → Prop} (q : Q (.bl (l.all f))) : allW (.lst (l.map fun a => D.bl (f a))) Q E := by
  unfold allW
  simp only [blsOf_map]
  rw [List.all_map]
  exact q
theorem cut_lo (xs : List D) (i : Nat) (h : i ≤ xs.length) : DL.cutD xs none (some (i : Int)) = xs.take i := by
  unfold DL.cutD
  have e1 : HT.sIx xs.length 0 none = 0 := rfl
  have e2 : HT.sIx xs.length xs.length (some (i : Int)) = i := by
    rw [HT.sIx_nat]; omega
  rw [e1, e2, List.drop_zero, Nat.sub_zero]
theorem sl_lo (xs : List D) (i : Nat) (h : i ≤ xs.length) : sliceB none (some (i : Int)) (.tup xs) = some (.tup (xs.take i)) := by rw [sliceB, cut_lo xs i h]
theorem len_shD (s : List Hd) : lenB (shD s) = some (s.length : Int) := by simp [lenB, shD]
theorem within_spec (a b c : Int) : Pure (m_is_within [.int a, .int b, .int c]) (.bl (decide (b ≤ a) && decide (a ≤ c))) := by
  intro Q E q
  simp [m_is_within, runW, w_is_within, m_is_integer, w_is_integer, tyN, subT]
  by_cases h : b ≤ a
  · simp [h] at q ⊢; exact q
  · simp [h] at q ⊢; exact q
theorem holder_of_spec (h : Hd) (n H : Nat) (fit : if h.f then h.n < n else h.n < H) : Pure (m_is_holder_of [hdD h, .int (n : Nat), .int (H : Nat)]) (.bl true) := by
  intro Q E q
  have t1 : tyN (hdD h) = some "tuple" := rfl
  have t2 : lenB (hdD h) = some 2 := rfl
  have t3 : eqD (.int 2) (.int 2) = true := by decide +kernel
  have t4 : ∀ s : Str, tyN (.str s) = some "str" := fun _ => rfl
  have t5 : subT "tuple" "tuple" = true := by decide +kernel
  have t6 : subT "str" "str" = true := by decide +kernel
  have x0 := ix_hd0 h
  have x1 := ix_hd1 h
  have gen : ∀ (w : List D → W D) (d : D), (∀ a b c : Int, Pure (w [.int a, .int b, .int c]) (.bl (decide (b ≤ a) && decide (a ≤ c)))) → True := fun _ _ _ => trivial
  simp [m_is_holder_of, runW, w_is_holder_of, m_is_pair, w_is_pair, t1, t2, t3, t4, t5, t6, x0, x1, plain_int]
  cases hf : h.f with
  | true =>
    rw [hf] at fit
    simp at fit
    simp [eqff, plf]
    refine within_spec _ _ _ _ _ ?_
    have : (decide ((0 : Int) ≤ (h.n : Int)) && decide ((h.n : Int) ≤ (n : Int) - 1)) = true := by simp; omega
    rw [this]
    exact q
  | false =>
    rw [hf] at fit
    simp at fit
    simp [eqhf, eqhh, plf, plh]
    refine within_spec _ _ _ _ _ ?_
    have : (decide ((0 : Int) ≤ (h.n : Int)) && decide ((h.n : Int) ≤ (H : Int) - 1)) = true := by simp; omega
    rw [this]
    exact q
def Rising (s : List Hd) : Prop := ∀ (i : Nat) (a b : Hd), s[i]? = some a → s[i + 1]? = some b → leD (hdD a) (hdD b) = true
theorem ordOk_hd (a b : Hd) : ordOk (hdD a) (hdD b) := ⟨hd_plain a 49, hd_plain b 49, hd_alike a b, by simp [hdD, py]⟩
theorem rising_spec (s : List Hd) (hl : s.length ≤ 1000) (hr : Rising s) : Pure (m_are_rising [shD s]) (.bl true) := by
  intro Q E q
  simp [m_are_rising, runW, w_are_rising, len_shD]
  refine ⟨by omega, ?_⟩
  have e1 : ((1 : Int)) = ((1 : Nat) : Int) := rfl
  rw [e1, rngN]
  refine compL_mapF _ (fun _ => .bl true) _ (fun i hi => ⟨_, fun Q E q => q, fun Q E q => ?_⟩) _ _ ?_
  · obtain ⟨j, hj, rfl⟩ := List.mem_range'.mp hi
    have l1 : j + 1 < s.length := by omega
    obtain ⟨a, ea⟩ : ∃ a, s[j]? = some a := ⟨s[j], List.getElem?_eq_getElem (by omega)⟩
    obtain ⟨b, eb⟩ : ∃ b, s[j + 1]? = some b := ⟨s[j + 1], List.getElem?_eq_getElem l1⟩
    have i1 : ixB (shD s) (.int (j : Nat)) = some (hdD a) := by
      unfold shD; rw [ix_tup _ _ (by simp; omega)]; simp [ea]
    have i2 : ixB (shD s) (.int ((j + 1 : Nat) : Nat)) = some (hdD b) := by
      unfold shD; rw [ix_tup _ _ (by simp; omega)]; simp [eb]
    have e3 : (((1 + 1 * j : Nat) : Int) - 1) = (j : Int) := by omega
    have e4 : ((1 + 1 * j : Nat) : Int) = ((j + 1 : Nat) : Int) := by omega
    have hr2 : (!PySem.W.dataLt (py (hdD b)) (py (hdD a))) = true := hr j a b ea eb
    have : ∀ (x1 : D), binW (ordW fun x y => (fun d e => !PySem.W.dataLt e d) (py x) (py y)) (binW ixW (varW 0) (binW subW (varW 1) (cW (.int 1)))) (binW ixW (varW 0) (varW 1)) [some (shD s), some (.int ((1 + 1 * j : Nat) : Int))] Q E := by
      intro x1
      simp only [binW_eq, varW_eq, cW_eq, ixW_eq]
      show (match ixB (shD s) (.int (((1 + 1 * j : Nat) : Int) - 1)) with | some d => _ | none => False)
      rw [e3, i1]
      show (match ixB (shD s) (.int ((1 + 1 * j : Nat) : Int)) with | some d => _ | none => False)
      rw [e4, i2]
      refine ⟨ordOk_hd a b, ?_⟩
      show Q (.bl (!PySem.W.dataLt (py (hdD b)) (py (hdD a))))
      rw [hr2]
      exact q
    exact this .non
  · refine allW_map (fun _ => true) _ ?_
    have : ((List.range' 1 (s.length - 1)).all fun _ => true) = true := by rw [List.all_eq_true]; exact fun _ _ => rfl
    simp only [this]
    first | exact q | (simp; exact q)
def rk (h : Hd) : Nat := if h.f then 0 else 1
theorem hd_lt (a b : Hd) : PySem.W.dataLt (py (hdD b)) (py (hdD a)) = decide (rk b < rk a ∨ (rk b = rk a ∧ b.n < a.n)) := by
  obtain ⟨f, p⟩ := a
  obtain ⟨g, r⟩ := b
  have sf : PySem.W.dataLt (.str "f") (.str "h") = true := by decide +kernel
  have sh : PySem.W.dataLt (.str "h") (.str "f") = false := by decide +kernel
  have e1 : PyData.eqv (.str "f") (.str "f") = true := by decide +kernel
  have e2 : PyData.eqv (.str "h") (.str "h") = true := by decide +kernel
  have e3 : PyData.eqv (.str "f") (.str "h") = false := by decide +kernel
  have e4 : PyData.eqv (.str "h") (.str "f") = false := by decide +kernel
  have i1 : PySem.W.dataLt (.int (r : Nat)) (.int (p : Nat)) = decide ((r : Int) < (p : Int)) := PySem.W.dataLt_int _ _
  have i2 : PyData.eqv (.int (r : Nat)) (.int (p : Nat)) = decide ((r : Int) = (p : Int)) := by rw [PyData.eqv]; exact Bool.eq_iff_iff.mpr (by simp)
  have al : ∀ x y : Str, PySem.W.alike (.str x) (.str y) = true := fun x y => by simp [PySem.W.alike]
  have ai : ∀ x y : Int, PySem.W.alike (.int x) (.int y) = true := fun x y => by simp [PySem.W.alike]
  simp only [hdD, py, pyL]
  rw [PySem.W.dataLt_pair (al _ _) (ai _ _), i1, i2]
  cases f <;> cases g <;> simp [rk, e1, e2, e3, e4, sf, sh] <;> omega
theorem hd_le (a b : Hd) : leD (hdD a) (hdD b) = decide (rk a < rk b ∨ (rk a = rk b ∧ a.n ≤ b.n)) := by
  unfold leD
  rw [hd_lt, ← decide_not]
  exact decide_eq_decide.mpr (by omega)
theorem sort_pair (s : List Hd) : (sortH s).Pairwise fun a b => leD (hdD a) (hdD b) = true := by
  refine List.pairwise_mergeSort (fun a b c h1 h2 => ?_) (fun a b => ?_) s
  · rw [hd_le, decide_eq_true_eq] at h1 h2 ⊢; omega
  · rw [hd_le, hd_le, Bool.or_eq_true, decide_eq_true_eq, decide_eq_true_eq]; omega
theorem rising_sort (s : List Hd) : Rising (sortH s) := by
  intro i a b ea eb
  obtain ⟨h1, rfl⟩ := List.getElem?_eq_some_iff.mp ea
  obtain ⟨h2, rfl⟩ := List.getElem?_eq_some_iff.mp eb
  exact List.pairwise_iff_getElem.mp (sort_pair s) i (i + 1) h1 h2 (by omega)
/-- the parts a web takes -/
structure WebIn (n : Nat) (hs : List (List Hd)) : Prop where
  n1 : 1 ≤ n
  n6 : n ≤ 6
  len : hs.length ≤ 12
  l1 : ∀ s ∈ hs, 1 ≤ s.length
  l15 : ∀ s ∈ hs, s.length ≤ 15
  odd : ∀ s ∈ hs, s.length % 2 = 1
  fit : ∀ s ∈ hs, ∀ h ∈ s, if h.f then h.n < n else h.n < hs.length
  rise : ∀ s ∈ hs, Rising s
theorem shares_spec (n : Nat) (hs : List (List Hd)) (k : WebIn n hs) (s : List Hd) (hm : s ∈ hs) : Pure (m_are_shares [shD s, .int (n : Nat), .int (hs.length : Nat)]) (.bl true) := by
  intro Q E q
  have a1 := k.l1 s hm
  have a2 := k.l15 s hm
  have a3 := k.odd s hm
  have t1 : tyN (shD s) = some "tuple" := rfl
  have t5 : subT "tuple" "tuple" = true := by decide +kernel
  have t7 : ((s.length : Int) % 2) = ((1 : Nat) : Int) := by omega
  have t8 : eqD (.int ((1 : Nat) : Int)) (.int 0) = false := by decide +kernel
  have t9 : (1 : Int) ≤ (s.length : Int) := by omega
  have t10 : (s.length : Int) ≤ 15 := by omega
  simp [m_are_shares, runW, w_are_shares, t1, t5, len_shD, t9, t10, plain_int]
  rw [t7]
  simp [t8]
  have : ∀ (w : List D → W D), (∀ h ∈ s, Pure (w [hdD h, .int (n : Nat), .int (hs.length : Nat)]) (.bl true)) → Pure (compL (tName 3) yesW (appW w (consW (varW 3) (consW (varW 1) (consW (varW 2) nilW)))) (wipeD [some (shD s), some (.int (n : Nat)), some (.int (hs.length : Nat)), none] [3]) (s.map hdD)) (s.map fun _ => D.bl true) := by
    intro w hw
    refine compL_mapF hdD (fun _ => .bl true) s fun x hx => ⟨_, fun Q E q => q, fun Q E q => ?_⟩
    simp [wipeD]
    exact hw x hx _ _ q
  have hsq : seqB (shD s) = some (s.map hdD) := rfl
  simp only [hsq]
  refine this _ (fun h hh => holder_of_spec h n hs.length (k.fit s hm h hh)) _ _ ?_
  refine allW_map (fun _ => true) _ ?_
  have e : (s.all fun _ => true) = true := by rw [List.all_eq_true]; exact fun _ _ => rfl
  rw [e]
  show m_are_rising [shD s] _ _
  exact rising_spec s (by omega) (k.rise s hm) _ _ q
theorem WebIn.fine {n : Nat} {hs : List (List Hd)} (k : WebIn n hs) : Fine n hs := ⟨k.n6, by have := k.len; omega, fun s h => by have := k.l15 s h; omega, k.odd, fun s h x hx hf => by have := k.fit s h x hx; rw [hf] at this; exact this⟩
theorem WebIn.ok {n : Nat} {hs : List (List Hd)} (k : WebIn n hs) : WebOk n hs := ⟨by have := k.n6; omega, k.fine.len, k.fine.lens, k.fine.fitF⟩
theorem init_spec (n : Nat) (hs : List (List Hd)) (k : WebIn n hs) : Pure (m_Web___init__ [.obj "Web" [] [], .int (n : Nat), hsD hs]) (webD "Web" n hs) := by
  intro Q E q
  have k1 : idxS "keep" [] = none := rfl
  have t1 : tyN (hsD hs) = some "tuple" := rfl
  have t5 : subT "tuple" "tuple" = true := by decide +kernel
  have hl := k.len
  have a1 := k.n1
  have a6 := k.n6
  have t12 : decide ((12 : Int) < (hs.length : Int)) = false := by simp; omega
  have hsq : seqB (hsD hs) = some (hs.map shD) := rfl
  simp [m_Web___init__, runM, w_Web___init__]
  refine within_spec _ _ _ _ _ ?_
  have t0 : (decide ((1 : Int) ≤ (n : Int)) && decide ((n : Int) ≤ 6)) = true := by simp; omega
  rw [t0]
  simp [t1, t5, len_hsD, hsq]
  first
    | refine ⟨by omega, ?_⟩
    | rw [if_neg (by omega)]
  refine forL_ind (fun i ρ => ∃ y3 y4, ρ = [some (.obj "Web" [] []), some (.int (n : Nat)), some (hsD hs), y3, y4]) _ (fun ρ hI => ?_) (fun i x ρ R hx hI hR => ?_) _ ⟨none, none, rfl⟩
  · obtain ⟨y3, y4, rfl⟩ := hI
    simp [methW, objAt, k1]
    exact keep_spec "Web" (.inl rfl) n hs k.ok _ _ q
  · obtain ⟨y3, y4, rfl⟩ := hI
    obtain ⟨x, hx2, rfl⟩ := enum_get hx
    rw [List.getElem?_map, Option.map_eq_some_iff] at hx2
    obtain ⟨s, e, rfl⟩ := hx2
    simp [len_hsD]
    refine shares_spec n hs k s (List.mem_of_getElem? e) _ _ ?_
    first
      | exact ⟨rfl, hR _ ⟨_, _, rfl⟩⟩
      | exact hR _ ⟨_, _, rfl⟩
def HoldOk (n A : Nat) (d : D) : Prop := ∃ h : Hd, d = hdD h ∧ if h.f then h.n < n else h.n < A
theorem draw_spec (n : Nat) (h0 : 0 < n) (h1 : n < 1073741824) : Some' (m__law_draw [.pool, .int (n : Nat)]) fun d => ∃ k : Nat, k < n ∧ d = .int (k : Nat) := by
  intro Q E q
  refine ⟨⟨by omega, by omega⟩, fun k k0 k1 => ?_⟩
  have : k = ((k.toNat : Nat) : Int) := by omega
  rw [this]
  exact q _ ⟨k.toNat, by omega, rfl⟩
theorem holder_spec (n A : Nat) (lean : Int) (n0 : 0 < n) (n1 : n < 1000) (A1 : A < 1000) : Some' (m__law_holder [.pool, .int (n : Nat), .int (A : Nat), .int lean]) (HoldOk n A) := by
  intro Q E q
  have e0 : eqD (.int (A : Nat)) (.int 0) = decide (A = 0) := eqF_nat A 0
  simp [m__law_holder, runW, w__law_holder, plain_int, e0]
  have f1 : ∀ k : Nat, k < n → HoldOk n A (.tup [.str "f", .int (k : Nat)]) := fun k hk => ⟨⟨true, k⟩, rfl, by simpa using hk⟩
  have f2 : ∀ k : Nat, k < A → HoldOk n A (.tup [.str "h", .int (k : Nat)]) := fun k hk => ⟨⟨false, k⟩, rfl, by simpa using hk⟩
  by_cases hA : A = 0
  · simp [hA]
    refine draw_spec n n0 (by omega) _ _ fun d ⟨k, hk, e⟩ => ?_
    subst e
    exact q _ (f1 k hk)
  · simp [hA]
    refine draw_spec 6 (by omega) (by omega) _ _ fun d ⟨k, hk, e⟩ => ?_
    subst e
    simp
    split
    · refine draw_spec n n0 (by omega) _ _ fun d ⟨k, hk, e⟩ => ?_
      subst e
      exact q _ (f1 k hk)
    · refine draw_spec A (by omega) (by omega) _ _ fun d ⟨k, hk, e⟩ => ?_
      subst e
      exact q _ (f2 k hk)
theorem holds_list (n A : Nat) : ∀ ds : List D, (∀ d ∈ ds, HoldOk n A d) → ∃ s : List Hd, ds = s.map hdD ∧ ∀ h ∈ s, if h.f then h.n < n else h.n < A
  | [], _ => ⟨[], rfl, by simp⟩
  | d :: ds, h => by
    obtain ⟨x, e, hx⟩ := h d (by simp)
    obtain ⟨s, e2, hs⟩ := holds_list n A ds fun y hy => h y (by simp [hy])
    refine ⟨x :: s, by rw [e, e2]; rfl, fun z hz => ?_⟩
    rcases List.mem_cons.mp hz with rfl | hz
    · exact hx
    · exact hs z hz
/-- one house drawn -/
def HouseOk (n H : Nat) (s : List Hd) : Prop := 1 ≤ s.length ∧ s.length ≤ 15 ∧ s.length % 2 = 1 ∧ (∀ h ∈ s, if h.f then h.n < n else h.n < H) ∧ Rising s
theorem house_sorted {n H : Nat} {s : List Hd} (h1 : 1 ≤ s.length) (h2 : s.length ≤ 15) (h3 : s.length % 2 = 1) (h4 : ∀ h ∈ s, if h.f then h.n < n else h.n < H) : HouseOk n H (sortH s) :=
  ⟨by rw [sortH_len]; exact h1, by rw [sortH_len]; exact h2, by rw [sortH_len]; exact h3, fun h hh => h4 h ((sortH_perm s).mem_iff.mp hh), rising_sort s⟩
theorem pick3 (k : Nat) (hk : k < 3) : ∃ m : Nat, (m = 7 ∨ m = 9 ∨ m = 15) ∧ ixB (.lst [.int 7, .int 9, .int 15]) (.int (k : Nat)) = some (.int (m : Nat)) := by
  rcases k with _ | _ | _ | k
  · exact ⟨7, .inl rfl, rfl⟩
  · exact ⟨9, .inr (.inl rfl), rfl⟩
  · exact ⟨15, .inr (.inr rfl), rfl⟩
  · omega
theorem pick5 (k : Nat) (hk : k < 5) : ∃ m : Nat, (m = 1 ∨ m = 3 ∨ m = 5) ∧ ixB (.lst [.int 1, .int 3, .int 3, .int 3, .int 5]) (.int (k : Nat)) = some (.int (m : Nat)) := by
  rcases k with _ | _ | _ | _ | _ | k
  · exact ⟨1, .inl rfl, rfl⟩
  · exact ⟨3, .inr (.inl rfl), rfl⟩
  · exact ⟨3, .inr (.inl rfl), rfl⟩
  · exact ⟨3, .inr (.inl rfl), rfl⟩
  · exact ⟨5, .inr (.inr rfl), rfl⟩
  · omega
theorem pickL (k : Nat) (hk : k < 5) : ∃ m : Int, ixB (.lst [.int 3, .int 3, .int 1, .int 4, .int 3]) (.int (k : Nat)) = some (.int m) := by
  rcases k with _ | _ | _ | _ | _ | k
  · exact ⟨3, rfl⟩
  · exact ⟨3, rfl⟩
  · exact ⟨1, rfl⟩
  · exact ⟨4, rfl⟩
  · exact ⟨3, rfl⟩
  · omega
theorem eqD_nat (a b : Nat) : eqD (.int (a : Nat)) (.int (b : Nat)) = decide (a = b) := eqF_nat a b
theorem eqD_natL (a b : Nat) : eqD (.int (a : Nat)) (.int (OfNat.ofNat b)) = decide (a = b) := eqF_nat a b
theorem ix_last (xs : List D) (x : D) : ixB (.lst (xs ++ [x])) (.int (-1)) = some x := by
  unfold ixB
  simp [L2.atI, ixN]
  rw [if_pos (by omega)]
  have : ((-1 : Int) + (xs.length + 1)).toNat = xs.length := by omega
  rw [this]
  simp
theorem told_spec2 (a b : Nat) (a0 : 0 < a) (a5 : a ≤ 6) (b7 : b ≤ 12) : Some' (m__law_told [.pool, .int (a : Nat), .int (b : Nat)]) (fun d => ∃ n hs, d = toldD n hs ∧ WebIn n hs ∧ n ≤ a ∧ hs.length ≤ b) := by
  intro Q E q
  unfold m__law_told w__law_told
  walk_at "st"
  refine draw_spec a a0 (by omega) _ _ fun d ⟨n, hn, e⟩ => ?_
  subst e
  walk_at "st"
  have e1 : ((b : Int) + 1) = ((b + 1 : Nat) : Int) := by omega
  have e2 : (1 + (n : Int)) = ((n + 1 : Nat) : Int) := by omega
  rw [e1, e2]
  refine draw_spec (b + 1) (by omega) (by omega) _ _ fun d ⟨H, hH, e⟩ => ?_
  subst e
  walk_at "st"
  refine draw_spec 5 (by omega) (by omega) _ _ fun d ⟨kd, hkd, e⟩ => ?_
  subst e
  obtain ⟨ln, hln⟩ := pickL kd hkd
  walk_at "st"
  rw [hln]
  walk_at "st"
  refine ⟨by omega, ?_⟩
  refine forL_rng (fun i ρ => ∃ L y8 y9 y10 y11 y12, L.length = i ∧ (∀ s ∈ L, HouseOk (n + 1) H s) ∧ ρ = [some .pool, some (.int (a : Nat)), some (.int (b : Nat)), some (.int (n + 1 : Nat)), some (.int (H : Nat)), some (.int (kd : Nat)), some (.int ln), some (.lst (L.map shD)), y8, y9, y10, y11, y12]) _ (fun ρ hI => ?_) (fun i ρ R hi hI hR => ?_) _ ⟨[], _, _, _, _, _, rfl, by simp, rfl⟩
  · obtain ⟨L, y8, y9, y10, y11, y12, hl, hL, rfl⟩ := hI
    walk_at "st"
    refine q _ ⟨n + 1, L, rfl, ?_, by omega, by omega⟩
    exact ⟨by omega, by omega, by omega, fun s h => (hL s h).1, fun s h => (hL s h).2.1, fun s h => (hL s h).2.2.1, fun s h => by rw [hl]; exact (hL s h).2.2.2.1, fun s h => (hL s h).2.2.2.2⟩
  · obtain ⟨L, y8, y9, y10, y11, y12, hl, hL, rfl⟩ := hI
    walk_at "st"
    refine draw_spec 5 (by omega) (by omega) _ _ fun d ⟨dm, hdm, e⟩ => ?_
    subst e
    obtain ⟨m0, hm0, e0⟩ := pick5 dm hdm
    walk_at "st"
    rw [e0]
    walk_at "st"
    refine Goes.kseq (P := fun ρ' => ∃ m : Nat, (1 ≤ m ∧ m ≤ 15 ∧ m % 2 = 1) ∧ ρ' = [some .pool, some (.int (a : Nat)), some (.int (b : Nat)), some (.int (n + 1 : Nat)), some (.int (H : Nat)), some (.int (kd : Nat)), some (.int ln), some (.lst (L.map shD)), some (.int (i : Nat)), some (.int (m : Nat)), y10, y11, y12]) (fun Q E q => ?_) fun ρ' ⟨m, hm, e⟩ => ?_
    · walk_at "it"
      refine ⟨plain_int _ _, plain_int _ _, ?_⟩
      refine kAnd_of (fun h4 => ?_) fun h4 => ?_
      · walk_at "st"
        refine draw_spec 3 (by omega) (by omega) _ _ fun d ⟨d3, hd3, e⟩ => ?_
        subst e
        walk_at "st"
        refine ⟨plain_int _ _, plain_int _ _, ?_⟩
        refine kIte_of (fun h5 => ?_) fun h5 => ?_
        · walk_at "st"
          refine draw_spec 3 (by omega) (by omega) _ _ fun d ⟨d4, hd4, e⟩ => ?_
          subst e
          obtain ⟨m1, hm1, e1⟩ := pick3 d4 hd4
          walk_at "st"
          rw [e1]
          walk_at "st"
          exact q _ ⟨m1, by omega, rfl⟩
        · walk_at "st"
          exact q _ ⟨m0, by omega, rfl⟩
      · walk_at "st"
        exact q _ ⟨m0, by omega, rfl⟩
    · subst e
      walk_at "st"
      refine Goes.kseq (P := fun ρ' => ∃ A : Nat, A ≤ H ∧ ρ' = [some .pool, some (.int (a : Nat)), some (.int (b : Nat)), some (.int (n + 1 : Nat)), some (.int (H : Nat)), some (.int (kd : Nat)), some (.int ln), some (.lst (L.map shD)), some (.int (i : Nat)), some (.int (m : Nat)), some (.int (A : Nat)), y11, y12]) (fun Q E q => ?_) fun ρ' ⟨A, hA, e⟩ => ?_
      · walk_at "it"
        refine ⟨plain_int _ _, plain_int _ _, ?_⟩
        refine kIte_of (fun h4 => ?_) fun h4 => ?_
        · walk_at "st"
          refine q _ ⟨i, by omega, ?_⟩
          simp
        · walk_at "st"
          exact q _ ⟨H, by omega, rfl⟩
      · subst e
        walk_at "st"
        refine ⟨by omega, ?_⟩
        rw [rng0]
        refine compL_some _ (HoldOk (n + 1) A) _ (fun k hk => ⟨_, fun Q E q => q, fun Q E q => ?_⟩) _ _ fun ds ⟨hds, hok⟩ => ?_
        · walk_at "st"
          exact holder_spec (n + 1) A ln (by omega) (by omega) (by omega) _ _ q
        · obtain ⟨s, rfl, hs⟩ := holds_list _ _ ds hok
          rw [List.length_map, List.length_range] at hds
          walk_at "st"
          refine Goes.kseq (P := fun ρ' => ∃ s' : List Hd, s'.length = m ∧ (∀ h ∈ s', if h.f then h.n < n + 1 else h.n < A) ∧ ρ' = [some .pool, some (.int (a : Nat)), some (.int (b : Nat)), some (.int (n + 1 : Nat)), some (.int (H : Nat)), some (.int (kd : Nat)), some (.int ln), some (.lst (L.map shD)), some (.int (i : Nat)), some (.int (m : Nat)), some (.int (A : Nat)), some (.lst (s'.map hdD)), y12]) (fun Q E q => ?_) fun ρ' ⟨s', hs1, hs2, e⟩ => ?_
          · walk_at "it"
            refine ⟨plain_int _ _, plain_int _ _, ?_⟩
            refine kIte_of (fun h4 => ?_) fun h4 => ?_
            · walk_at "st"
              refine ⟨by omega, ?_⟩
              have em : ((m : Int) - 1).toNat = m - 1 := by omega
              rw [em, rng0]
              have hsl : ∀ k : Nat, k < m → k % 2 < s.length := fun k hk => by have := Nat.mod_le k 2; omega
              refine compL_mapF _ (fun k => hdD (s[k % 2]?.getD (Hd.mk true 0))) _ (fun k hk => ⟨_, fun Q E q => q, fun Q E q => ?_⟩) _ _ ?_
              · have hk2 := List.mem_range.mp hk
                have h3 := hsl k (by omega)
                walk_at "st"
                have e3 : ((k : Int) % 2) = ((k % 2 : Nat) : Int) := by omega
                refine ⟨by omega, ?_⟩
                rw [e3, ix_lst _ _ (by rw [List.length_map]; exact h3), List.getElem?_map]
                rw [List.getElem?_eq_getElem h3] at q ⊢
                exact q
              · walk_at "st"
                obtain ⟨t, x, rfl⟩ : ∃ t x, s = t ++ [x] := ⟨s.dropLast, s.getLast (by intro z; subst z; simp at hds; omega), (List.dropLast_concat_getLast _).symm⟩
                have eL : ixB (.lst ((t ++ [x]).map hdD)) (.int (-1)) = some (hdD x) := by
                  rw [List.map_append]; exact ix_last _ _
                rw [eL]
                walk_at "st"
                refine ⟨?_, ?_⟩
                · have hz : sizeLine = 16777216 := sizeLine_eq
                  rw [List.length_map, List.length_range, hz]; omega
                · have e9 : ((List.range (m - 1)).map fun k => hdD ((t ++ [x])[k % 2]?.getD (Hd.mk true 0))) ++ [hdD x] = (((List.range (m - 1)).map fun k => (t ++ [x])[k % 2]?.getD (Hd.mk true 0)) ++ [x]).map hdD := by
                    rw [List.map_append, List.map_map]; rfl
                  rw [e9]
                  refine q _ ⟨_, ?_, fun h hh => ?_, rfl⟩
                  · rw [List.length_append, List.length_map, List.length_range]; simp; omega
                  · rcases List.mem_append.mp hh with hh | hh
                    · obtain ⟨k, hk, rfl⟩ := List.mem_map.mp hh
                      have hk2 := List.mem_range.mp hk
                      have h3 := hsl k (by omega)
                      rw [List.getElem?_eq_getElem h3]
                      exact hs _ (List.getElem_mem h3)
                    · simp at hh
                      subst hh
                      exact hs _ (by simp)
            · walk_at "st"
              exact q _ ⟨s, hds, hs, rfl⟩
          · subst e
            walk_at "st"
            rw [sortH_map]
            refine ⟨sortOk_hd s', by rw [List.length_map]; omega, ?_⟩
            refine hR _ ⟨L ++ [sortH s'], some (.int (i : Nat)), some (.int (m : Nat)), some (.int (A : Nat)), some (.lst (s'.map hdD)), y12, by rw [List.length_append, hl]; rfl, fun t ht => ?_, ?_⟩
            rotate_left 1
            · rw [List.map_append]; rfl
            · rcases List.mem_append.mp ht with ht | ht
              · exact hL t ht
              · simp at ht
                subst ht
                refine house_sorted (by omega) (by omega) (by omega) fun h hh => ?_
                have := hs2 h hh
                split at this <;> rename_i hf <;> simp only [hf] <;> simp <;> omega
theorem cut_take (xs : List D) (k : Nat) : DL.cutD xs none (some (k : Int)) = xs.take k := by
  unfold DL.cutD
  rw [HT.sIx_none, HT.sIx_nat, List.drop_zero, Nat.sub_zero]
  by_cases h : k ≤ xs.length
  · rw [Nat.min_eq_left h]
  · rw [Nat.min_eq_right (by omega), List.take_of_length_le (Nat.le_refl _), List.take_of_length_le (by omega)]
theorem sl_scr (ns : List Int) (k : Nat) : sliceB none (some (k : Int)) (.scr ns) = some (.lst ((ns.take k).map .int)) := by
  rw [sliceB, cut_take, List.map_take]
theorem intsOf_ints : ∀ l : List Int, intsOf (l.map D.int) = some l
  | [] => rfl
  | a :: l => by rw [List.map_cons, intsOf, intsOf_ints l]; rfl
theorem k_sum {l : List Int} {Q : D → Prop} {E : Xn → Prop} : sumW (.lst (l.map .int)) Q E = Q (.int l.sum) := by
  unfold sumW; simp only [intsOf_ints]
theorem pool_spec (ns : List Int) (hl : ns.length ≤ 63) : Some' (m__law_pool [.scr ns]) poolD := by
  intro Q E q
  unfold m__law_pool w__law_pool
  walk_at "st"
  have s1 : sliceB none (some (1 : Int)) (.scr ns) = some (.lst ((ns.take 1).map .int)) := sl_scr ns 1
  rw [s1]
  walk_at "st"
  rw [k_sum]
  walk_at "st"
  have l1 : lenB (.scr ns) = some (ns.length : Int) := rfl
  refine ⟨by omega, ?_⟩
  rw [l1]
  walk_at "st"
  have s2 : sliceB none (some (63 : Int)) (.scr ns) = some (.lst ((ns.take 63).map .int)) := sl_scr ns 63
  rw [s2]
  walk_at "st"
  refine forL_indF D.int (fun _ ρ => ∃ a y2, ρ = [some (.scr ns), some (.int a), y2]) _ (fun ρ hI => ?_) (fun i x ρ R hx hI hR => ?_) _ ⟨_, _, rfl⟩
  · obtain ⟨a, y2, rfl⟩ := hI
    walk_at "st"
    rw [s2]
    walk_at "st"
    refine compL_filtF D.int (fun c => D.int (if c < 0 then -c else c)) (fun c => decide ((10 : Int) ^ 18 ≤ if c < 0 then -c else c)) _ (fun c hc => ⟨_, fun Q E q => q, fun Q E q => ?_, fun _ Q E q => ?_⟩) _ _ ?_
    · walk_at "st"
      refine ⟨?_, q⟩
      show CPow 10 18
      unfold CPow
      omega
    · walk_at "st"
      exact q
    · walk_at "st"
      exact q _ ⟨a, 0, ((ns.take 63).filter fun c => decide ((10 : Int) ^ 18 ≤ if c < 0 then -c else c)).map fun c => if c < 0 then -c else c, by rw [List.map_map]; rfl⟩
  · obtain ⟨a, y2, rfl⟩ := hI
    walk_at "st"
    refine ⟨?_, ?_, ?_, ?_⟩
    · show CMul a 48271
      unfold CMul; omega
    · omega
    · omega
    · exact hR _ ⟨_, _, rfl⟩
theorem w_pool_spec : ∀ ns : List Int, ns.length ≤ 63 → ∀ Q : D → Prop, (∀ d, poolD d → Q d) → w_pool (some (.scr ns) :: List.replicate 16 none) Q noX := by
  intro ns hl Q q
  unfold w_pool
  walk_at "st"
  exact pool_spec ns hl _ _ q
def h2 : Hd := ⟨false, 2⟩
theorem subT_bb : subT "bool" "bool" = true := by decide +kernel
theorem check_match_spec (c c' : Str) (hc : c = "Web" ∨ c = "RawWeb") (hc' : c' = "Web" ∨ c' = "RawWeb") (n n' : Nat) (hs hs' : List (List Hd)) (Q : D → Prop) (E : Xn → Prop) (yes : n = n' → Q .non) (no : n ≠ n' → E ⟨"NoMatch", [], []⟩) :
    m_check_match [webD c n hs, webD c' n' hs'] Q E := by
  unfold m_check_match w_check_match
  walk_at "st"
  walk_at "it"
  rw [web_folk c hc]
  walk_at "st"
  rw [web_folk c' hc']
  walk_at "st"
  refine ⟨plain_int _ _, plain_int _ _, ?_⟩
  rw [eqD_nat]
  by_cases e : n = n'
  · rw [decide_eq_true e]
    walk_at "st"
    exact yes e
  · rw [decide_eq_false e]
    walk_at "st"
    exact no e
theorem law_web_spec (n : Nat) (hs : List (List Hd)) (k : WebIn n hs) : Pure (m__law_web [toldD n hs]) (webD "Web" n hs) := by
  intro Q E q
  unfold m__law_web w__law_web
  walk_at "st"
  rw [ix_told0]
  walk_at "st"
  rw [ix_told1]
  walk_at "st"
  exact init_spec n hs k _ _ q
theorem im_shD (s : List Hd) : im (shD s) = true := by
  unfold shD
  rw [im_tup, List.all_map, List.all_eq_true]
  intro h _
  show im (hdD h) = true
  unfold hdD
  rw [im_tup]
  rfl
theorem imL_shD (hs : List (List Hd)) : imL (hs.map shD) = true := by
  rw [imL_all, List.all_map, List.all_eq_true]
  exact fun s _ => im_shD s
end Prf

namespace Prf
open PySem PySem.Spec PyProof.Rows L2 DL
local macro_rules | `(tactic| walk_at "st") => `(tactic| simp only [o_shl, o_shr, o_band, o_bor, o_inv, o_max2, o_min2, k_isi2, o_rng1, o_rng2, k_rH, kRH_e, o_minL, o_maxL, o_repL, o_repA, o_repS, k_ixG, kIG_e, k_pop, kPop_e, k_dc, kDc_e, o_sortKT, o_sortN, o_sortSet, k_seq, kSeq_n, kSeq_b, kSeq_c, kSeq_r, optK_s, kVar_s, k_var, k_c, k_un, kUn_e, k_bin, kB1_e, kB2_e, k_nil, k_cons, kC1_e, kC2_e, k_app, kApp_e, kBl_e, k_bl, kTr_b, kTr_i, kTr_n, k_tr, k_not, kNot_e, k_and, kAnd_t, kAnd_f, k_or, kOr_t, kOr_f, k_andV, kAndV_t, kAndV_f, k_orV, kOrV_t, kOrV_f, k_notV, kNotV_e, k_if, kIf_t, kIf_f, k_up, kUp_e, k_tup, kTup_e, k_lst, kLst_e, k_next, k_brk, k_cont, k_asg, kAsg_e, k_expr, kExp_e, k_ret, kRet_e, k_retN, kIte_t, kIte_f, k_for, kFor_e, k_comp, kComp_e, k_yes, k_tName, k_tTup, k_tCons, kTC_e, k_tNil, kNx_e, k_asgT, kAT_e, k_par, kP1_e, kP2_e, kSq_e, k_sq, seqB_t, seqB_l, imK_e, kSqr_e, k_sqr, enK_e, kEn_e, k_en, kR1_e, k_r1, k_r2, kR21_e, kR22_e, k_zip, kZ1_e, kZ2_l, kZ2_t, k_chain, kCh1_e, kCh2_e, kCh2_t, kCh2_f, kCh3_e, k_slice, kSl1_e, kSl2_e, kSl3_e, k_noPart, k_part, kPart_e, k_run, kRun_r, kRun_n, k_runM, kRunM_n, kLA_s, k_append, kApd1_e, kApd2_e, k_extend, kExt1_e, kExt2_e, k_setIx, kSix0_e, kSix1_e, kSix2_e, kSix3_e, kDA_s, k_put, kPut0_e, kPut1_e, kPut2_i, kPut2_s, k_aug, kAug0_s, kAug1_e, kAug2_e, k_len, lenB_t, lenB_l, lenB_d, k_ix, k_ixr, k_fld, kB_e, kBn_e, k_in, k_nin, k_eq, k_ne, k_isi, k_is, k_isn, nonB, o_add, o_addT, o_addL, o_sub, o_mul, o_div, o_mod, o_pow, o_lt, o_le, o_gt, o_ge, o_int, o_intB, o_abs, o_neg, o_tup, o_tupT, o_tupR, o_tupTR, o_lst, o_lstR, o_lstT, o_lstTR, o_lstD, o_sort, o_sortR, o_sortT, o_sortTR, o_sortD, o_ord, o_sortIt, upL_v, upOk_v, List.getElem?_cons_zero, List.getElem?_cons_succ, List.set_cons_zero, List.set_cons_succ, List.map_cons, List.map_nil, List.cons_append, List.nil_append, List.length_cons, List.length_nil, List.replicate, wipeD, kLoop_n, kLoop_c, kLoop_b, kLoop_r, kBody_e, k_make, kMake_e, kOA_s, k_setFld, kSF0_e, kSF1_e, k_meth, kMe0_e, kMe1_e, kMe2_e, k_get, kGet0_e, kGet1_e, kGet2_i, kGet2_s, k_rep, k_raise, k_try, kTry_e, handW_n, k_raise1, kRaise1_e, k_tryA, kTryA_e, handAW_n, k_zip2, kZw1_e, o_isb, k_callV, kCV0_e, kCV1_e, k_call0, ne_eq, true_and, and_true, Bool.not_true, Bool.not_false, Int.toNat_natCast, decide_true, decide_false])
local macro_rules | `(tactic| walk_at "it") => `(tactic| (rw [k_ite]; walk_at "st"))
/-! ### all flags, ascending -/
def two (v : List Bool) : List (List Bool) := [v ++ [false], v ++ [true]]
def flags : Nat → List (List Bool)
  | 0 => [[]]
  | n + 1 => (flags n).flatMap two
def flD (v : List Bool) : D := .tup (v.map D.bl)
theorem flags_len : ∀ n, (flags n).length = 2 ^ n
  | 0 => rfl
  | n + 1 => by
    have : ∀ l : List (List Bool), (l.flatMap two).length = 2 * l.length := fun l => by
      induction l with
      | nil => rfl
      | cons a l ih => rw [List.flatMap_cons, List.length_append, ih, List.length_cons]; show 2 + _ = _; omega
    rw [flags, this, flags_len n, Nat.pow_succ]
    omega
theorem flags_mem : ∀ n (v : List Bool), v ∈ flags n → v.length = n
  | 0, v, h => by
    have : v = [] := by simpa [flags] using h
    rw [this]; rfl
  | n + 1, v, h => by
    rw [flags, List.mem_flatMap] at h
    obtain ⟨u, hu, hv⟩ := h
    have := flags_mem n u hu
    unfold two at hv
    rcases List.mem_cons.mp hv with rfl | hv
    · simp [this]
    · rcases List.mem_cons.mp hv with rfl | hv
      · simp [this]
      · cases hv
theorem two_len (l : List (List Bool)) : (l.flatMap two).length = 2 * l.length := by
  induction l with
  | nil => rfl
  | cons a l ih => rw [List.flatMap_cons, List.length_append, ih, List.length_cons]; show 2 + _ = _; omega
theorem two_snoc (l : List (List Bool)) (a : List Bool) : ((l ++ [a]).flatMap two).map flD = (l.flatMap two).map flD ++ [.tup (a.map D.bl ++ [.bl false]), .tup (a.map D.bl ++ [.bl true])] := by
  rw [List.flatMap_append, List.map_append]
  simp [two, flD]
theorem flags_pre {n : Nat} {pre post : List (List Bool)} {a : List Bool} (h8 : n ≤ 8) (h : flags n = pre ++ a :: post) : pre.length ≤ 256 ∧ a.length ≤ 8 := by
  have h1 := flags_len n
  have h2 := flags_mem n a (by rw [h]; simp)
  have h3 : 2 ^ n ≤ 2 ^ 8 := Nat.pow_le_pow_right (by omega) h8
  rw [h, List.length_append, List.length_cons] at h1
  omega
theorem all_flags_spec (n : Nat) (h8 : n ≤ 8) : Pure (m_all_flags [.int (n : Nat)]) (.lst ((flags n).map flD)) := by
  intro Q E q
  have hz : sizeLine = 16777216 := sizeLine_eq
  unfold m_all_flags w_all_flags
  walk_at "st"
  refine ⟨by omega, ?_⟩
  refine forL_range (fun i ρ => ∃ y2 y3 y4, ρ = [some (.int (n : Nat)), some (.lst ((flags i).map flD)), y2, y3, y4]) _ (fun ρ hI => ?_) (fun i ρ R hi hI hR => ?_) _ ⟨none, none, none, rfl⟩
  · obtain ⟨y2, y3, y4, rfl⟩ := hI
    walk_at "st"
    exact q
  · obtain ⟨y2, y3, y4, rfl⟩ := hI
    walk_at "st"
    refine forL_pre flD (fun pre ρ => ∃ y4, ρ = [some (.int (n : Nat)), some (.lst ((flags i).map flD)), some (.int (i : Nat)), some (.lst ((pre.flatMap two).map flD)), y4]) _ (fun ρ hI => ?_) (fun pre a post ρ R hx hI hR' => ?_) _ ⟨y4, rfl⟩
    · obtain ⟨y4, rfl⟩ := hI
      walk_at "st"
      exact hR _ ⟨_, _, _, rfl⟩
    · obtain ⟨y4, rfl⟩ := hI
      have hb := flags_pre (by omega) hx
      walk_at "st"
      have ea : flD a = .tup (a.map D.bl) := rfl
      rw [ea]
      walk_at "st"
      refine ⟨by rw [List.length_map, hz]; omega, by rw [List.length_map, hz]; omega, by rw [List.length_map, two_len]; omega, ?_⟩
      rw [← two_snoc]
      exact hR' _ ⟨_, rfl⟩
theorem law_boards_spec (n : Nat) (h8 : n ≤ 8) : Pure (m__law_boards [.int (n : Nat)]) (.lst ((flags n).map flD)) := by
  intro Q E q
  have hz : sizeLine = 16777216 := sizeLine_eq
  unfold m__law_boards w__law_boards
  walk_at "st"
  refine ⟨by omega, ?_⟩
  refine forL_range (fun i ρ => ∃ y2 y3 y4, ρ = [some (.int (n : Nat)), some (.lst ((flags i).map flD)), y2, y3, y4]) _ (fun ρ hI => ?_) (fun i ρ R hi hI hR => ?_) _ ⟨none, none, none, rfl⟩
  · obtain ⟨y2, y3, y4, rfl⟩ := hI
    walk_at "st"
    exact q
  · obtain ⟨y2, y3, y4, rfl⟩ := hI
    walk_at "st"
    refine forL_pre flD (fun pre ρ => ∃ y4, ρ = [some (.int (n : Nat)), some (.lst ((flags i).map flD)), some (.int (i : Nat)), some (.lst ((pre.flatMap two).map flD)), y4]) _ (fun ρ hI => ?_) (fun pre a post ρ R hx hI hR' => ?_) _ ⟨y4, rfl⟩
    · obtain ⟨y4, rfl⟩ := hI
      walk_at "st"
      exact hR _ ⟨_, _, _, rfl⟩
    · obtain ⟨y4, rfl⟩ := hI
      have hb := flags_pre (by omega) hx
      walk_at "st"
      have ea : flD a = .tup (a.map D.bl) := rfl
      rw [ea]
      walk_at "st"
      refine ⟨by rw [List.length_map, hz]; omega, by rw [List.length_map, hz]; omega, by rw [List.length_map, two_len, hz]; omega, ?_⟩
      rw [← two_snoc]
      exact hR' _ ⟨_, rfl⟩
end Prf

namespace Prf
open PySem PySem.Spec PyProof.Rows L2 DL
local macro_rules | `(tactic| walk_at "st") => `(tactic| simp only [o_shl, o_shr, o_band, o_bor, o_inv, o_max2, o_min2, k_isi2, o_rng1, o_rng2, k_rH, kRH_e, o_minL, o_maxL, o_repL, o_repA, o_repS, k_ixG, kIG_e, k_pop, kPop_e, k_dc, kDc_e, o_sortKT, o_sortN, o_sortSet, k_seq, kSeq_n, kSeq_b, kSeq_c, kSeq_r, optK_s, kVar_s, k_var, k_c, k_un, kUn_e, k_bin, kB1_e, kB2_e, k_nil, k_cons, kC1_e, kC2_e, k_app, kApp_e, kBl_e, k_bl, kTr_b, kTr_i, kTr_n, k_tr, k_not, kNot_e, k_and, kAnd_t, kAnd_f, k_or, kOr_t, kOr_f, k_andV, kAndV_t, kAndV_f, k_orV, kOrV_t, kOrV_f, k_notV, kNotV_e, k_if, kIf_t, kIf_f, k_up, kUp_e, k_tup, kTup_e, k_lst, kLst_e, k_next, k_brk, k_cont, k_asg, kAsg_e, k_expr, kExp_e, k_ret, kRet_e, k_retN, kIte_t, kIte_f, k_for, kFor_e, k_comp, kComp_e, k_yes, k_tName, k_tTup, k_tCons, kTC_e, k_tNil, kNx_e, k_asgT, kAT_e, k_par, kP1_e, kP2_e, kSq_e, k_sq, seqB_t, seqB_l, imK_e, kSqr_e, k_sqr, enK_e, kEn_e, k_en, kR1_e, k_r1, k_r2, kR21_e, kR22_e, k_zip, kZ1_e, kZ2_l, kZ2_t, k_chain, kCh1_e, kCh2_e, kCh2_t, kCh2_f, kCh3_e, k_slice, kSl1_e, kSl2_e, kSl3_e, k_noPart, k_part, kPart_e, k_run, kRun_r, kRun_n, k_runM, kRunM_n, kLA_s, k_append, kApd1_e, kApd2_e, k_extend, kExt1_e, kExt2_e, k_setIx, kSix0_e, kSix1_e, kSix2_e, kSix3_e, kDA_s, k_put, kPut0_e, kPut1_e, kPut2_i, kPut2_s, k_aug, kAug0_s, kAug1_e, kAug2_e, k_len, lenB_t, lenB_l, lenB_d, k_ix, k_ixr, k_fld, kB_e, kBn_e, k_in, k_nin, k_eq, k_ne, k_isi, k_is, k_isn, nonB, o_add, o_addT, o_addL, o_sub, o_mul, o_div, o_mod, o_pow, o_lt, o_le, o_gt, o_ge, o_int, o_intB, o_abs, o_neg, o_tup, o_tupT, o_tupR, o_tupTR, o_lst, o_lstR, o_lstT, o_lstTR, o_lstD, o_sort, o_sortR, o_sortT, o_sortTR, o_sortD, o_ord, o_sortIt, upL_v, upOk_v, List.getElem?_cons_zero, List.getElem?_cons_succ, List.set_cons_zero, List.set_cons_succ, List.map_cons, List.map_nil, List.cons_append, List.nil_append, List.length_cons, List.length_nil, List.replicate, wipeD, kLoop_n, kLoop_c, kLoop_b, kLoop_r, kBody_e, k_make, kMake_e, kOA_s, k_setFld, kSF0_e, kSF1_e, k_meth, kMe0_e, kMe1_e, kMe2_e, k_get, kGet0_e, kGet1_e, kGet2_i, kGet2_s, k_rep, k_raise, k_try, kTry_e, handW_n, k_raise1, kRaise1_e, k_tryA, kTryA_e, handAW_n, k_zip2, kZw1_e, o_isb, k_callV, kCV0_e, kCV1_e, k_call0, ne_eq, true_and, and_true, Bool.not_true, Bool.not_false, Int.toNat_natCast, decide_true, decide_false])
local macro_rules | `(tactic| walk_at "it") => `(tactic| (rw [k_ite]; walk_at "st"))
/-! ### what most shares of a house say -/
def atB (b : List Bool) (i : Nat) : Bool := (b[i]?).getD false
def sayC (v b : List Bool) (s : List Hd) : Nat := s.countP fun x => if x.f then atB v x.n else atB b x.n
def saysB (hs : List (List Hd)) (v b : List Bool) (h : Nat) : Bool := match hs[h]? with
  | some s => decide (s.length < 2 * sayC v b s)
  | none => false
def restB (hs : List (List Hd)) (v b : List Bool) : Bool := (List.range b.length).all fun h => saysB hs v b h == atB b h
/-- what the law needs of a web's houses -/
structure Fit (n : Nat) (hs : List (List Hd)) : Prop where
  n6 : n ≤ 6
  len : hs.length ≤ 12
  l15 : ∀ s ∈ hs, s.length ≤ 15
  odd : ∀ s ∈ hs, s.length % 2 = 1
  fit : ∀ s ∈ hs, ∀ x ∈ s, if x.f then x.n < n else x.n < hs.length
theorem atB_lt {b : List Bool} {i : Nat} (h : i < b.length) : b[i]? = some (atB b i) := by
  unfold atB
  rw [List.getElem?_eq_getElem h]
  rfl
theorem ix_fl (b : List Bool) (i : Nat) (h : i < b.length) : ixB (flD b) (.int (i : Nat)) = some (.bl (atB b i)) := by
  unfold flD
  rw [ix_tup _ _ (by rw [List.length_map]; exact h), List.getElem?_map, atB_lt h]
  rfl
theorem say_snoc (v b : List Bool) (s : List Hd) (x : Hd) : sayC v b (s ++ [x]) = sayC v b s + if (if x.f then atB v x.n else atB b x.n) = true then 1 else 0 := by
  unfold sayC
  rw [List.countP_append]
  simp [List.countP_cons]
theorem law_says_spec (n : Nat) (hs : List (List Hd)) (k : Fit n hs) (v b : List Bool) (hv : v.length = n) (hb : b.length = hs.length) (h : Nat) (hh : h < hs.length) : Pure (m__law_says [toldD n hs, flD v, flD b, .int (h : Nat)]) (.bl (saysB hs v b h)) := by
  intro Q E q
  have hz : sizeLine = 16777216 := sizeLine_eq
  obtain ⟨s, es⟩ : ∃ s, hs[h]? = some s := ⟨hs[h], List.getElem?_eq_getElem hh⟩
  have hm := List.mem_of_getElem? es
  have l15 := k.l15 s hm
  have ix := ix_house hs h s es
  unfold m__law_says w__law_says
  walk_at "st"
  rw [ix_told1]
  walk_at "st"
  rw [ix]
  walk_at "st"
  have ss : seqB (shD s) = some (s.map hdD) := rfl
  rw [ss]
  walk_at "st"
  refine forL_pre hdD (fun pre ρ => ∃ y5 y6, ρ = [some (toldD n hs), some (flD v), some (flD b), some (.int (h : Nat)), some (.int (sayC v b pre : Nat)), y5, y6]) _ (fun ρ hI => ?_) (fun pre x post ρ R hx hI hR => ?_) _ ⟨none, none, rfl⟩
  · obtain ⟨y5, y6, rfl⟩ := hI
    walk_at "st"
    rw [ix_told1]
    walk_at "st"
    rw [ix]
    walk_at "st"
    rw [len_shD]
    walk_at "st"
    have e : saysB hs v b h = decide (s.length < 2 * sayC v b s) := by unfold saysB; rw [es]
    rw [e] at q
    have e2 : decide ((s.length : Int) < 2 * ((sayC v b s : Nat) : Int)) = decide (s.length < 2 * sayC v b s) := decide_eq_decide.mpr (by omega)
    rw [e2]
    exact ⟨by simp [CMul], q⟩
  · obtain ⟨y5, y6, rfl⟩ := hI
    have hxm : x ∈ s := by rw [hx]; simp
    have fx := k.fit s hm x hxm
    have ex : hdD x = .tup [.str (if x.f then "f" else "h"), .int (x.n : Nat)] := rfl
    rw [ex]
    walk_at "st"
    have hl : (pre ++ x :: post).length ≤ 15 := hx ▸ l15
    have hp : pre.length ≤ 15 := by rw [List.length_append] at hl; omega
    cases hf : x.f with
    | true =>
      rw [hf, if_pos rfl] at fx
      rw [if_pos rfl]
      refine ⟨plf, plf, ?_⟩
      rw [eqff]
      walk_at "st"
      rw [ix_fl v x.n (by omega)]
      walk_at "st"
      have e : ((sayC v b pre : Nat) : Int) + (if atB v x.n = true then 1 else 0) = ((sayC v b (pre ++ [x]) : Nat) : Int) := by
        rw [say_snoc, hf]
        cases atB v x.n <;> simp
      rw [e]
      exact hR _ ⟨_, _, rfl⟩
    | false =>
      rw [hf, if_neg (by simp)] at fx
      rw [if_neg (by simp)]
      refine ⟨plh, plf, ?_⟩
      rw [eqhf]
      walk_at "st"
      rw [ix_fl b x.n (by omega)]
      walk_at "st"
      have e : ((sayC v b pre : Nat) : Int) + (if atB b x.n = true then 1 else 0) = ((sayC v b (pre ++ [x]) : Nat) : Int) := by
        rw [say_snoc, hf]
        cases atB b x.n <;> simp
      rw [e]
      exact hR _ ⟨_, _, rfl⟩

theorem zip_fl (v : List Bool) (s : List Hd) (n : Nat) (hv : v.length = n) : zipD (v.map D.bl) (personsD n s) = (List.range n).map fun p => D.tup [.bl (atB v p), .int (cntF s p : Nat)] := by
  apply List.ext_getElem?
  intro i
  by_cases hi : i < n
  · unfold zipD personsD
    rw [List.getElem?_map, List.getElem?_map, List.getElem?_range hi]
    have : ((v.map D.bl).zip ((List.range n).map fun p => (.int (cntF s p : Nat) : D)))[i]? = some (.bl (atB v i), .int (cntF s i : Nat)) := by
      rw [List.getElem?_zip_eq_some, List.getElem?_map, List.getElem?_map, List.getElem?_range hi, atB_lt (by omega)]
      exact ⟨rfl, rfl⟩
    rw [this]
    rfl
  · rw [List.getElem?_eq_none (by simp [zipD, personsD]; omega), List.getElem?_eq_none (by simp; omega)]
def ownS (b : List Bool) : Key → Bool
  | .inl o => atB b o.toNat
  | _ => false
theorem own_key (s : List Hd) : ∀ d ∈ ownL s, ∃ (o : Nat) (c : Int), d = .tup [.int (o : Nat), .int c] ∧ ∃ h ∈ s, h.f = false ∧ h.n = o := by
  intro d hd
  have perm : (ownL s).Perm (itemsD (ownF s).1 (ownF s).2) := List.mergeSort_perm _ _
  have hd := perm.mem_iff.mp hd
  unfold itemsD at hd
  obtain ⟨p, hp, rfl⟩ := List.mem_map.mp hd
  obtain ⟨h1, h2⟩ := List.of_mem_zip hp
  obtain ⟨o, e⟩ := (ownF_ok s).2.2.1 p.1 h1
  obtain ⟨c, e2⟩ := ownF_ints s p.2 h2
  refine ⟨o, c, by rw [e, e2]; rfl, ?_⟩
  have hs : (dget (ownF s).1 (ownF s).2 (.inl (o : Int)) : Option D).isSome = true := by
    unfold dget
    rw [Option.isSome_map, List.find?_isSome]
    exact ⟨p, hp, by simp [e]⟩
  rw [(ownF_ok s).2.2.2 o] at hs
  have hc : cntH s o ≠ 0 := by
    intro z
    rw [if_pos z] at hs
    cases hs
  unfold cntH at hc
  obtain ⟨h, hm, hh⟩ := List.countP_pos_iff.mp (Nat.pos_of_ne_zero hc)
  simp only [Bool.and_eq_true, Bool.not_eq_true', beq_iff_eq] at hh
  exact ⟨h, hm, hh.1, hh.2⟩
theorem say_split (v b : List Bool) (n : Nat) (s : List Hd) (fit : ∀ x ∈ s, x.f = true → x.n < n) : (s.countP fun h => h.f && decide (h.n ∈ (List.range n).filter (atB v))) + (s.countP fun h => !h.f && ownS b (.inl (h.n : Int))) = sayC v b s := by
  unfold sayC
  induction s with
  | nil => rfl
  | cons x s ih =>
    have ih := ih fun y hy => fit y (by simp [hy])
    simp only [List.countP_cons]
    rw [← ih]
    cases hf : x.f with
    | true =>
      have hn := fit x (by simp) hf
      have e : decide (x.n ∈ (List.range n).filter (atB v)) = atB v x.n := by
        cases ha : atB v x.n <;> simp [ha, hn]
      rw [e]
      simp
      omega
    | false =>
      have e : ownS b (.inl (x.n : Int)) = atB b x.n := by unfold ownS; simp
      rw [e]
      simp
      omega
theorem says_there_spec (n : Nat) (hs : List (List Hd)) (k : Fit n hs) (v b : List Bool) (hv : v.length = n) (hb : b.length = hs.length) (h : Nat) (hh : h < hs.length) : Pure (m_says_there [webD "Web" n hs, flD v, flD b, .int (h : Nat)]) (.bl (saysB hs v b h)) := by
  intro Q E q
  have hz : sizeLine = 16777216 := sizeLine_eq
  obtain ⟨s, es⟩ : ∃ s, hs[h]? = some s := ⟨hs[h], List.getElem?_eq_getElem hh⟩
  have hm := List.mem_of_getElem? es
  have l15 := k.l15 s hm
  have e1 : ixB (.lst (kF n hs)) (.int (h : Nat)) = some (.lst (personsD n s)) := by
    rw [ix_lst _ _ (by simp [kF]; exact hh)]
    simp [kF, es]
  have e2 : ixB (.lst (kH hs)) (.int (h : Nat)) = some (.lst (ownL s)) := by
    rw [ix_lst _ _ (by simp [kH]; exact hh)]
    simp [kH, es]
  have e3 : ixB (.lst (kM hs)) (.int (h : Nat)) = some (.int ((s.length + 1) / 2 : Nat)) := by
    rw [ix_lst _ _ (by simp [kM]; exact hh)]
    simp [kM, es]
  unfold m_says_there w_says_there
  walk_at "st"
  rw [web_kf "Web" (.inl rfl)]
  walk_at "st"
  rw [e1]
  walk_at "st"
  rw [kZw2_of (xs := v.map D.bl) (ys := personsD n s) rfl rfl, zip_fl v s n hv]
  walk_at "st"
  refine compL_filtF (fun p => D.tup [.bl (atB v p), .int (cntF s p : Nat)]) (fun p => D.int (cntF s p : Nat)) (atB v) (List.range n) (fun p hp => ⟨_, fun Q E q => q, fun Q E q => ?_, fun _ Q E q => ?_⟩) _ _ ?_
  · walk_at "st"
    exact q
  · walk_at "st"
    exact q
  walk_at "st"
  refine sumW_lst (intsOf_map _ _) ?_
  walk_at "st"
  rw [web_kh "Web" (.inl rfl)]
  walk_at "st"
  rw [e2]
  walk_at "st"
  refine compL_pure (pickS (ownS b)) _ (fun x hx => ?_) _ _ ?_
  · obtain ⟨o, c, rfl, x0, hx0, hf0, hn0⟩ := own_key s x hx
    have ho : o < b.length := by
      have := k.fit s hm x0 hx0
      rw [hf0, if_neg (by simp), hn0] at this
      omega
    have ew : ownS b (.inl (o : Int)) = atB b o := by unfold ownS; simp
    refine ⟨_, fun Q E q => q, ?_⟩
    · have ep : pickS (ownS b) (D.tup [.int (o : Nat), .int c]) = if atB b o = true then some (.int c) else none := by
        show (if ownS b (.inl (o : Int)) = true then some (D.int c) else none) = _
        rw [ew]
      have tt : ∀ (Q : Bool → Prop) E, Q (atB b o) → trW (binW ixW (varW 2) (varW 7)) [some (webD "Web" n hs), some (flD v), some (flD b), some (.int (h : Nat)), some (.int ((((List.range n).filter (atB v)).map fun p => ((cntF s p : Nat) : Int)).sum)), none, some (.int c), some (.int (o : Nat))] Q E := fun Q E q => by
        walk_at "st"
        rw [ix_fl b o ho]
        walk_at "st"
        exact q
      rw [ep]
      cases ha : atB b o with
      | true =>
        rw [ha] at tt
        exact ⟨fun Q E q => tt Q E q, fun Q E q => q⟩
      | false =>
        rw [ha] at tt
        exact fun Q E q => tt Q E q
  · obtain ⟨ns, g1, g2⟩ := sum_own (ownS b) s
    walk_at "st"
    refine sumW_lst g1 ?_
    walk_at "st"
    rw [web_km "Web" (.inl rfl)]
    walk_at "st"
    rw [e3]
    walk_at "st"
    rw [g2, sum_cntF s _ (List.Pairwise.filter _ List.nodup_range)]
    have e : (s.countP fun h => h.f && decide (h.n ∈ (List.range n).filter (atB v))) + (s.countP fun h => !h.f && ownS b (.inl (h.n : Int))) = sayC v b s := say_split v b n s fun x hx hf => by
      have := k.fit s hm x hx
      rw [hf, if_pos rfl] at this
      exact this
    have e4 : saysB hs v b h = decide ((s.length + 1) / 2 ≤ sayC v b s) := by
      unfold saysB
      rw [es]
      have := k.odd s hm
      exact decide_eq_decide.mpr (by omega)
    rw [e4, ← e] at q
    have e5 : decide ((((s.length + 1) / 2 : Nat) : Int) ≤ ((s.countP fun h => h.f && decide (h.n ∈ (List.range n).filter (atB v)) : Nat) : Int) + ((s.countP fun h => !h.f && ownS b (.inl (h.n : Int)) : Nat) : Int)) = decide ((s.length + 1) / 2 ≤ (s.countP fun h => h.f && decide (h.n ∈ (List.range n).filter (atB v))) + (s.countP fun h => !h.f && ownS b (.inl (h.n : Int)))) := decide_eq_decide.mpr (by omega)
    rw [e5]
    exact q
end Prf

namespace Prf
open PySem PySem.Spec PyProof.Rows L2 DL
local macro_rules | `(tactic| walk_at "st") => `(tactic| simp only [o_shl, o_shr, o_band, o_bor, o_inv, o_max2, o_min2, k_isi2, o_rng1, o_rng2, k_rH, kRH_e, o_minL, o_maxL, o_repL, o_repA, o_repS, k_ixG, kIG_e, k_pop, kPop_e, k_dc, kDc_e, o_sortKT, o_sortN, o_sortSet, k_seq, kSeq_n, kSeq_b, kSeq_c, kSeq_r, optK_s, kVar_s, k_var, k_c, k_un, kUn_e, k_bin, kB1_e, kB2_e, k_nil, k_cons, kC1_e, kC2_e, k_app, kApp_e, kBl_e, k_bl, kTr_b, kTr_i, kTr_n, k_tr, k_not, kNot_e, k_and, kAnd_t, kAnd_f, k_or, kOr_t, kOr_f, k_andV, kAndV_t, kAndV_f, k_orV, kOrV_t, kOrV_f, k_notV, kNotV_e, k_if, kIf_t, kIf_f, k_up, kUp_e, k_tup, kTup_e, k_lst, kLst_e, k_next, k_brk, k_cont, k_asg, kAsg_e, k_expr, kExp_e, k_ret, kRet_e, k_retN, kIte_t, kIte_f, k_for, kFor_e, k_comp, kComp_e, k_yes, k_tName, k_tTup, k_tCons, kTC_e, k_tNil, kNx_e, k_asgT, kAT_e, k_par, kP1_e, kP2_e, kSq_e, k_sq, seqB_t, seqB_l, imK_e, kSqr_e, k_sqr, enK_e, kEn_e, k_en, kR1_e, k_r1, k_r2, kR21_e, kR22_e, k_zip, kZ1_e, kZ2_l, kZ2_t, k_chain, kCh1_e, kCh2_e, kCh2_t, kCh2_f, kCh3_e, k_slice, kSl1_e, kSl2_e, kSl3_e, k_noPart, k_part, kPart_e, k_run, kRun_r, kRun_n, k_runM, kRunM_n, kLA_s, k_append, kApd1_e, kApd2_e, k_extend, kExt1_e, kExt2_e, k_setIx, kSix0_e, kSix1_e, kSix2_e, kSix3_e, kDA_s, k_put, kPut0_e, kPut1_e, kPut2_i, kPut2_s, k_aug, kAug0_s, kAug1_e, kAug2_e, k_len, lenB_t, lenB_l, lenB_d, k_ix, k_ixr, k_fld, kB_e, kBn_e, k_in, k_nin, k_eq, k_ne, k_isi, k_is, k_isn, nonB, o_add, o_addT, o_addL, o_sub, o_mul, o_div, o_mod, o_pow, o_lt, o_le, o_gt, o_ge, o_int, o_intB, o_abs, o_neg, o_tup, o_tupT, o_tupR, o_tupTR, o_lst, o_lstR, o_lstT, o_lstTR, o_lstD, o_sort, o_sortR, o_sortT, o_sortTR, o_sortD, o_ord, o_sortIt, upL_v, upOk_v, List.getElem?_cons_zero, List.getElem?_cons_succ, List.set_cons_zero, List.set_cons_succ, List.map_cons, List.map_nil, List.cons_append, List.nil_append, List.length_cons, List.length_nil, List.replicate, wipeD, kLoop_n, kLoop_c, kLoop_b, kLoop_r, kBody_e, k_make, kMake_e, kOA_s, k_setFld, kSF0_e, kSF1_e, k_meth, kMe0_e, kMe1_e, kMe2_e, k_get, kGet0_e, kGet1_e, kGet2_i, kGet2_s, k_rep, k_raise, k_try, kTry_e, handW_n, k_raise1, kRaise1_e, k_tryA, kTryA_e, handAW_n, k_zip2, kZw1_e, o_isb, k_callV, kCV0_e, kCV1_e, k_call0, ne_eq, true_and, and_true, Bool.not_true, Bool.not_false, Int.toNat_natCast, decide_true, decide_false])
local macro_rules | `(tactic| walk_at "it") => `(tactic| (rw [k_ite]; walk_at "st"))
/-! ### at rest -/
def moveB (hs : List (List Hd)) (v b : List Bool) (h : Nat) : Bool := !decide (saysB hs v b h = atB b h)
theorem rest_move (hs : List (List Hd)) (v b : List Bool) : decide (((List.range b.length).filter (moveB hs v b)).length = 0) = restB hs v b := by
  unfold restB
  rw [Bool.eq_iff_iff, decide_eq_true_eq, List.length_eq_zero_iff, List.filter_eq_nil_iff, List.all_eq_true]
  have e : ∀ i, (moveB hs v b i = true → False) ↔ (saysB hs v b i == atB b i) = true := fun i => by
    unfold moveB
    generalize saysB hs v b i = x
    generalize atB b i = y
    cases x <;> cases y <;> simp
  exact ⟨fun h i hi => (e i).mp (h i hi), fun h i hi => (e i).mpr (h i hi)⟩
theorem len_fl (b : List Bool) : lenB (flD b) = some (b.length : Int) := by simp [lenB, flD]
theorem rngNat (n : Nat) : rngD 0 n = (List.range n).map fun i : Nat => D.int (i : Int) := rng0 n
theorem changing_spec (n : Nat) (hs : List (List Hd)) (k : Fit n hs) (v b : List Bool) (hv : v.length = n) (hb : b.length = hs.length) : Pure (m_changing_of [webD "Web" n hs, flD v, flD b]) (.tup (((List.range b.length).filter (moveB hs v b)).map fun i : Nat => D.int (i : Int))) := by
  intro Q E q
  have hz : sizeLine = 16777216 := sizeLine_eq
  have hl := k.len
  unfold m_changing_of w_changing_of
  walk_at "st"
  rw [len_fl]
  walk_at "st"
  have e0 : ((b.length : Int) - 0).toNat = b.length := by omega
  rw [e0, rngNat]
  refine ⟨⟨by decide, by decide, by omega, by omega, by omega⟩, ?_⟩
  refine compL_filtF (fun i : Nat => D.int (i : Int)) (fun i : Nat => D.int (i : Int)) (moveB hs v b) (List.range b.length) (fun i hi => ⟨_, fun Q E q => q, fun Q E q => ?_, fun _ Q E q => ?_⟩) _ _ ?_
  · have hi : i < b.length := by simpa using hi
    walk_at "st"
    refine says_there_spec n hs k v b hv hb i (by omega) _ _ ?_
    walk_at "st"
    rw [ix_fl b i hi]
    walk_at "st"
    refine ⟨plain_b _ _, plain_b _ _, ?_⟩
    rw [eqD_bb]
    exact q
  · walk_at "st"
    exact q
  · walk_at "st"
    exact q
theorem rest_spec (n : Nat) (hs : List (List Hd)) (k : Fit n hs) (v b : List Bool) (hv : v.length = n) (hb : b.length = hs.length) : Pure (m_is_at_rest [webD "Web" n hs, flD v, flD b]) (.bl (restB hs v b)) := by
  intro Q E q
  unfold m_is_at_rest w_is_at_rest
  walk_at "st"
  refine changing_spec n hs k v b hv hb _ _ ?_
  walk_at "st"
  rw [List.length_map]
  refine ⟨plain_int _ _, plain_int _ _, ?_⟩
  have e := eqD_natL ((List.range b.length).filter (moveB hs v b)).length 0
  rw [← rest_move, ← e] at q
  exact q
theorem law_rest_spec (n : Nat) (hs : List (List Hd)) (k : Fit n hs) (v b : List Bool) (hv : v.length = n) (hb : b.length = hs.length) : Pure (m__law_rests [toldD n hs, flD v, flD b]) (.bl (restB hs v b)) := by
  intro Q E q
  have hz : sizeLine = 16777216 := sizeLine_eq
  have hl := k.len
  unfold m__law_rests w__law_rests
  walk_at "st"
  rw [len_fl]
  walk_at "st"
  refine ⟨by omega, ?_⟩
  rw [rngNat]
  refine compL_filtF (fun i : Nat => D.int (i : Int)) (fun i : Nat => D.int (i : Int)) (moveB hs v b) (List.range b.length) (fun i hi => ⟨_, fun Q E q => q, fun Q E q => ?_, fun _ Q E q => ?_⟩) _ _ ?_
  · have hi : i < b.length := by simpa using hi
    walk_at "st"
    refine law_says_spec n hs k v b hv hb i (by omega) _ _ ?_
    walk_at "st"
    rw [ix_fl b i hi]
    walk_at "st"
    refine ⟨plain_b _ _, plain_b _ _, ?_⟩
    rw [eqD_bb]
    exact q
  · walk_at "st"
    exact q
  · walk_at "st"
    rw [List.length_map]
    refine ⟨plain_int _ _, plain_int _ _, ?_⟩
    have e := eqD_natL ((List.range b.length).filter (moveB hs v b)).length 0
    rw [← rest_move, ← e] at q
    exact q
end Prf

namespace Prf
open PySem PySem.Spec PyProof.Rows L2 DL
local macro_rules | `(tactic| walk_at "st") => `(tactic| simp only [o_shl, o_shr, o_band, o_bor, o_inv, o_max2, o_min2, k_isi2, o_rng1, o_rng2, k_rH, kRH_e, o_minL, o_maxL, o_repL, o_repA, o_repS, k_ixG, kIG_e, k_pop, kPop_e, k_dc, kDc_e, o_sortKT, o_sortN, o_sortSet, k_seq, kSeq_n, kSeq_b, kSeq_c, kSeq_r, optK_s, kVar_s, k_var, k_c, k_un, kUn_e, k_bin, kB1_e, kB2_e, k_nil, k_cons, kC1_e, kC2_e, k_app, kApp_e, kBl_e, k_bl, kTr_b, kTr_i, kTr_n, k_tr, k_not, kNot_e, k_and, kAnd_t, kAnd_f, k_or, kOr_t, kOr_f, k_andV, kAndV_t, kAndV_f, k_orV, kOrV_t, kOrV_f, k_notV, kNotV_e, k_if, kIf_t, kIf_f, k_up, kUp_e, k_tup, kTup_e, k_lst, kLst_e, k_next, k_brk, k_cont, k_asg, kAsg_e, k_expr, kExp_e, k_ret, kRet_e, k_retN, kIte_t, kIte_f, k_for, kFor_e, k_comp, kComp_e, k_yes, k_tName, k_tTup, k_tCons, kTC_e, k_tNil, kNx_e, k_asgT, kAT_e, k_par, kP1_e, kP2_e, kSq_e, k_sq, seqB_t, seqB_l, imK_e, kSqr_e, k_sqr, enK_e, kEn_e, k_en, kR1_e, k_r1, k_r2, kR21_e, kR22_e, k_zip, kZ1_e, kZ2_l, kZ2_t, k_chain, kCh1_e, kCh2_e, kCh2_t, kCh2_f, kCh3_e, k_slice, kSl1_e, kSl2_e, kSl3_e, k_noPart, k_part, kPart_e, k_run, kRun_r, kRun_n, k_runM, kRunM_n, kLA_s, k_append, kApd1_e, kApd2_e, k_extend, kExt1_e, kExt2_e, k_setIx, kSix0_e, kSix1_e, kSix2_e, kSix3_e, kDA_s, k_put, kPut0_e, kPut1_e, kPut2_i, kPut2_s, k_aug, kAug0_s, kAug1_e, kAug2_e, k_len, lenB_t, lenB_l, lenB_d, k_ix, k_ixr, k_fld, kB_e, kBn_e, k_in, k_nin, k_eq, k_ne, k_isi, k_is, k_isn, nonB, o_add, o_addT, o_addL, o_sub, o_mul, o_div, o_mod, o_pow, o_lt, o_le, o_gt, o_ge, o_int, o_intB, o_abs, o_neg, o_tup, o_tupT, o_tupR, o_tupTR, o_lst, o_lstR, o_lstT, o_lstTR, o_lstD, o_sort, o_sortR, o_sortT, o_sortTR, o_sortD, o_ord, o_sortIt, upL_v, upOk_v, List.getElem?_cons_zero, List.getElem?_cons_succ, List.set_cons_zero, List.set_cons_succ, List.map_cons, List.map_nil, List.cons_append, List.nil_append, List.length_cons, List.length_nil, List.replicate, wipeD, kLoop_n, kLoop_c, kLoop_b, kLoop_r, kBody_e, k_make, kMake_e, kOA_s, k_setFld, kSF0_e, kSF1_e, k_meth, kMe0_e, kMe1_e, kMe2_e, k_get, kGet0_e, kGet1_e, kGet2_i, kGet2_s, k_rep, k_raise, k_try, kTry_e, handW_n, k_raise1, kRaise1_e, k_tryA, kTryA_e, handAW_n, k_zip2, kZw1_e, o_isb, k_callV, kCV0_e, kCV1_e, k_call0, ne_eq, true_and, and_true, Bool.not_true, Bool.not_false, Int.toNat_natCast, decide_true, decide_false])
local macro_rules | `(tactic| walk_at "it") => `(tactic| (rw [k_ite]; walk_at "st"))
/-! ### the least vote and boards at rest in just one -/
def unlk (h1 h2 : List (List Hd)) (v b : List Bool) : Bool := !decide (restB h1 v b = restB h2 v b)
def dueF (m : Nat) (h1 h2 : List (List Hd)) (v : List Bool) : Option (List Bool × List Bool) := ((flags m).find? (unlk h1 h2 v)).map fun b => (v, b)
def due (n m : Nat) (h1 h2 : List (List Hd)) : Option (List Bool × List Bool) := (flags n).findSome? (dueF m h1 h2)
def dueD : Option (List Bool × List Bool) → D
  | none => .non
  | some p => .tup [flD p.1, flD p.2]
theorem due_at {n m : Nat} {h1 h2 : List (List Hd)} {pre post pre2 post2 : List (List Bool)} {v b : List Bool} (e1 : flags n = pre ++ v :: post) (k1 : ∀ u ∈ pre, dueF m h1 h2 u = none) (e2 : flags m = pre2 ++ b :: post2) (k2 : ∀ c ∈ pre2, unlk h1 h2 v c = false) (hu : unlk h1 h2 v b = true) : due n m h1 h2 = some (v, b) := by
  have f : dueF m h1 h2 v = some (v, b) := by
    unfold dueF
    rw [e2, List.find?_append, List.find?_eq_none.mpr fun c hc => by rw [k2 c hc]; simp]
    rw [List.find?_cons, hu]
    rfl
  unfold due
  rw [e1, List.findSome?_append, List.findSome?_eq_none_iff.mpr k1, List.findSome?_cons, f]
  rfl
theorem dueF_none {m : Nat} {h1 h2 : List (List Hd)} {v : List Bool} (k : ∀ c ∈ flags m, unlk h1 h2 v c = false) : dueF m h1 h2 v = none := by
  unfold dueF
  rw [List.find?_eq_none.mpr fun c hc => by rw [k c hc]; simp]
  rfl
theorem stand_symm (n m : Nat) (h1 h2 : List (List Hd)) : due n m h2 h1 = due n m h1 h2 := by
  have : ∀ v b, unlk h2 h1 v b = unlk h1 h2 v b := fun v b => by
    unfold unlk
    cases restB h1 v b <;> cases restB h2 v b <;> rfl
  unfold due
  congr 1
  funext v
  unfold dueF
  congr 2
  funext b
  exact this v b
theorem due_self (n m : Nat) (hs : List (List Hd)) : due n m hs hs = none := by
  unfold due
  refine List.findSome?_eq_none_iff.mpr fun v _ => dueF_none fun b _ => ?_
  unfold unlk
  simp
theorem first_spec (n : Nat) (h1 h2 : List (List Hd)) (k1 : Fit n h1) (k2 : Fit n h2) (hl : h1.length = h2.length) (h8 : h1.length ≤ 8) : Pure (m_first_unlike_stand [webD "Web" n h1, webD "Web" n h2]) (dueD (due n h1.length h1 h2)) := by
  intro Q E q
  have n6 := k1.n6
  unfold m_first_unlike_stand w_first_unlike_stand
  walk_at "st"
  rw [web_folk "Web" (.inl rfl)]
  walk_at "st"
  refine all_flags_spec n (by omega) _ _ ?_
  walk_at "st"
  refine forL_pre flD (fun pre ρ => ∃ y2 y3, (∀ u ∈ pre, dueF h1.length h1 h2 u = none) ∧ ρ = [some (webD "Web" n h1), some (webD "Web" n h2), y2, y3]) _ (fun ρ hI => ?_) (fun pre v post ρ R hx hI hR => ?_) _ ⟨none, none, by simp, rfl⟩
  · obtain ⟨y2, y3, g, rfl⟩ := hI
    walk_at "st"
    have : due n h1.length h1 h2 = none := List.findSome?_eq_none_iff.mpr g
    rw [this] at q
    exact q
  · obtain ⟨y2, y3, g, rfl⟩ := hI
    have hv : v.length = n := flags_mem n v (by rw [hx]; simp)
    walk_at "st"
    rw [web_hs "Web" (.inl rfl)]
    walk_at "st"
    rw [List.length_map]
    refine all_flags_spec h1.length h8 _ _ ?_
    walk_at "st"
    refine forL_pre flD (fun pre2 ρ => ∃ y3, (∀ c ∈ pre2, unlk h1 h2 v c = false) ∧ ρ = [some (webD "Web" n h1), some (webD "Web" n h2), some (flD v), y3]) _ (fun ρ hI => ?_) (fun pre2 b post2 ρ R hx2 hI hR' => ?_) _ ⟨y3, by simp, rfl⟩
    · obtain ⟨y3, g2, rfl⟩ := hI
      walk_at "st"
      refine hR _ ⟨_, _, fun u hu => ?_, rfl⟩
      rcases List.mem_append.mp hu with hu | hu
      · exact g u hu
      · simp at hu
        subst hu
        exact dueF_none g2
    · obtain ⟨y3, g2, rfl⟩ := hI
      have hb : b.length = h1.length := flags_mem _ b (by rw [hx2]; simp)
      walk_at "st"
      walk_at "it"
      refine rest_spec n h1 k1 v b hv hb _ _ ?_
      walk_at "st"
      refine rest_spec n h2 k2 v b hv (by omega) _ _ ?_
      walk_at "st"
      refine ⟨plain_b _ _, plain_b _ _, ?_⟩
      rw [eqD_bb]
      have e : (!decide (restB h1 v b = restB h2 v b)) = unlk h1 h2 v b := rfl
      rw [e]
      refine kIte_of (fun hu => ?_) fun hu => ?_
      · walk_at "st"
        rw [due_at hx g hx2 g2 hu] at q
        exact q
      · walk_at "st"
        refine hR' _ ⟨_, fun c hc => ?_, rfl⟩
        rcases List.mem_append.mp hc with hc | hc
        · exact g2 c hc
        · simp at hc; subst hc; exact hu
theorem law_unlike_spec (n : Nat) (h1 h2 : List (List Hd)) (k1 : Fit n h1) (k2 : Fit n h2) (hl : h1.length = h2.length) (h8 : h1.length ≤ 8) : Pure (m__law_unlike [toldD n h1, toldD n h2]) (dueD (due n h1.length h1 h2)) := by
  intro Q E q
  have n6 := k1.n6
  unfold m__law_unlike w__law_unlike
  walk_at "st"
  rw [ix_told0]
  walk_at "st"
  refine law_boards_spec n (by omega) _ _ ?_
  walk_at "st"
  refine forL_pre flD (fun pre ρ => ∃ y2 y3, (∀ u ∈ pre, dueF h1.length h1 h2 u = none) ∧ ρ = [some (toldD n h1), some (toldD n h2), y2, y3]) _ (fun ρ hI => ?_) (fun pre v post ρ R hx hI hR => ?_) _ ⟨none, none, by simp, rfl⟩
  · obtain ⟨y2, y3, g, rfl⟩ := hI
    walk_at "st"
    have : due n h1.length h1 h2 = none := List.findSome?_eq_none_iff.mpr g
    rw [this] at q
    exact q
  · obtain ⟨y2, y3, g, rfl⟩ := hI
    have hv : v.length = n := flags_mem n v (by rw [hx]; simp)
    walk_at "st"
    rw [ix_told1]
    walk_at "st"
    rw [len_hsD]
    walk_at "st"
    refine law_boards_spec h1.length h8 _ _ ?_
    walk_at "st"
    refine forL_pre flD (fun pre2 ρ => ∃ y3, (∀ c ∈ pre2, unlk h1 h2 v c = false) ∧ ρ = [some (toldD n h1), some (toldD n h2), some (flD v), y3]) _ (fun ρ hI => ?_) (fun pre2 b post2 ρ R hx2 hI hR' => ?_) _ ⟨y3, by simp, rfl⟩
    · obtain ⟨y3, g2, rfl⟩ := hI
      walk_at "st"
      refine hR _ ⟨_, _, fun u hu => ?_, rfl⟩
      rcases List.mem_append.mp hu with hu | hu
      · exact g u hu
      · simp at hu
        subst hu
        exact dueF_none g2
    · obtain ⟨y3, g2, rfl⟩ := hI
      have hb : b.length = h1.length := flags_mem _ b (by rw [hx2]; simp)
      walk_at "st"
      walk_at "it"
      refine law_rest_spec n h1 k1 v b hv hb _ _ ?_
      walk_at "st"
      refine law_rest_spec n h2 k2 v b hv (by omega) _ _ ?_
      walk_at "st"
      refine ⟨plain_b _ _, plain_b _ _, ?_⟩
      rw [eqD_bb]
      have e : (!decide (restB h1 v b = restB h2 v b)) = unlk h1 h2 v b := rfl
      rw [e]
      refine kIte_of (fun hu => ?_) fun hu => ?_
      · walk_at "st"
        rw [due_at hx g hx2 g2 hu] at q
        exact q
      · walk_at "st"
        refine hR' _ ⟨_, fun c hc => ?_, rfl⟩
        rcases List.mem_append.mp hc with hc | hc
        · exact g2 c hc
        · simp at hc; subst hc; exact hu
end Prf

namespace Prf
open PySem PySem.Spec PyProof.Rows L2 DL
local macro_rules | `(tactic| walk_at "st") => `(tactic| simp only [o_shl, o_shr, o_band, o_bor, o_inv, o_max2, o_min2, k_isi2, o_rng1, o_rng2, k_rH, kRH_e, o_minL, o_maxL, o_repL, o_repA, o_repS, k_ixG, kIG_e, k_pop, kPop_e, k_dc, kDc_e, o_sortKT, o_sortN, o_sortSet, k_seq, kSeq_n, kSeq_b, kSeq_c, kSeq_r, optK_s, kVar_s, k_var, k_c, k_un, kUn_e, k_bin, kB1_e, kB2_e, k_nil, k_cons, kC1_e, kC2_e, k_app, kApp_e, kBl_e, k_bl, kTr_b, kTr_i, kTr_n, k_tr, k_not, kNot_e, k_and, kAnd_t, kAnd_f, k_or, kOr_t, kOr_f, k_andV, kAndV_t, kAndV_f, k_orV, kOrV_t, kOrV_f, k_notV, kNotV_e, k_if, kIf_t, kIf_f, k_up, kUp_e, k_tup, kTup_e, k_lst, kLst_e, k_next, k_brk, k_cont, k_asg, kAsg_e, k_expr, kExp_e, k_ret, kRet_e, k_retN, kIte_t, kIte_f, k_for, kFor_e, k_comp, kComp_e, k_yes, k_tName, k_tTup, k_tCons, kTC_e, k_tNil, kNx_e, k_asgT, kAT_e, k_par, kP1_e, kP2_e, kSq_e, k_sq, seqB_t, seqB_l, imK_e, kSqr_e, k_sqr, enK_e, kEn_e, k_en, kR1_e, k_r1, k_r2, kR21_e, kR22_e, k_zip, kZ1_e, kZ2_l, kZ2_t, k_chain, kCh1_e, kCh2_e, kCh2_t, kCh2_f, kCh3_e, k_slice, kSl1_e, kSl2_e, kSl3_e, k_noPart, k_part, kPart_e, k_run, kRun_r, kRun_n, k_runM, kRunM_n, kLA_s, k_append, kApd1_e, kApd2_e, k_extend, kExt1_e, kExt2_e, k_setIx, kSix0_e, kSix1_e, kSix2_e, kSix3_e, kDA_s, k_put, kPut0_e, kPut1_e, kPut2_i, kPut2_s, k_aug, kAug0_s, kAug1_e, kAug2_e, k_len, lenB_t, lenB_l, lenB_d, k_ix, k_ixr, k_fld, kB_e, kBn_e, k_in, k_nin, k_eq, k_ne, k_isi, k_is, k_isn, nonB, o_add, o_addT, o_addL, o_sub, o_mul, o_div, o_mod, o_pow, o_lt, o_le, o_gt, o_ge, o_int, o_intB, o_abs, o_neg, o_tup, o_tupT, o_tupR, o_tupTR, o_lst, o_lstR, o_lstT, o_lstTR, o_lstD, o_sort, o_sortR, o_sortT, o_sortTR, o_sortD, o_ord, o_sortIt, upL_v, upOk_v, List.getElem?_cons_zero, List.getElem?_cons_succ, List.set_cons_zero, List.set_cons_succ, List.map_cons, List.map_nil, List.cons_append, List.nil_append, List.length_cons, List.length_nil, List.replicate, wipeD, kLoop_n, kLoop_c, kLoop_b, kLoop_r, kBody_e, k_make, kMake_e, kOA_s, k_setFld, kSF0_e, kSF1_e, k_meth, kMe0_e, kMe1_e, kMe2_e, k_get, kGet0_e, kGet1_e, kGet2_i, kGet2_s, k_rep, k_raise, k_try, kTry_e, handW_n, k_raise1, kRaise1_e, k_tryA, kTryA_e, handAW_n, k_zip2, kZw1_e, o_isb, k_callV, kCV0_e, kCV1_e, k_call0, ne_eq, true_and, and_true, Bool.not_true, Bool.not_false, Int.toNat_natCast, decide_true, decide_false])
local macro_rules | `(tactic| walk_at "it") => `(tactic| (rw [k_ite]; walk_at "st"))
/-! ### both functions -/
theorem check_stands_spec (n : Nat) (h1 h2 : List (List Hd)) (hl : h1.length = h2.length) (h8 : h1.length ≤ 8) : Pure (m_check_stands [webD "Web" n h1, webD "Web" n h2]) .non := by
  intro Q E q
  unfold m_check_stands w_check_stands
  walk_at "st"
  refine check_match_spec "Web" "Web" (.inl rfl) (.inl rfl) n n h1 h2 _ _ (fun _ => ?_) fun z => absurd rfl z
  walk_at "st"
  walk_at "it"
  rw [web_hs "Web" (.inl rfl)]
  walk_at "st"
  rw [web_hs "Web" (.inl rfl)]
  walk_at "st"
  refine ⟨plain_int _ _, plain_int _ _, ?_⟩
  rw [List.length_map, List.length_map, eqD_nat, hl, decide_eq_true rfl]
  walk_at "st"
  rw [web_hs "Web" (.inl rfl)]
  walk_at "st"
  unfold m_check_many w_check_many
  walk_at "st"
  walk_at "it"
  rw [List.length_map]
  have e : decide ((8 : Int) < (h1.length : Int)) = false := decide_eq_false (by omega)
  rw [e]
  walk_at "st"
  exact q
theorem unlike_spec (n : Nat) (h1 h2 : List (List Hd)) (k1 : Fit n h1) (k2 : Fit n h2) (hl : h1.length = h2.length) (h8 : h1.length ≤ 8) : Pure (m_unlike_stand [webD "Web" n h1, webD "Web" n h2]) (dueD (due n h1.length h1 h2)) := by
  intro Q E q
  unfold m_unlike_stand w_unlike_stand
  walk_at "st"
  refine check_stands_spec n h1 h2 hl h8 _ _ ?_
  walk_at "st"
  refine first_spec n h1 h2 k1 k2 hl h8 _ _ ?_
  walk_at "st"
  exact q
theorem same_spec (n : Nat) (h1 h2 : List (List Hd)) (k1 : Fit n h1) (k2 : Fit n h2) (hl : h1.length = h2.length) (h8 : h1.length ≤ 8) : Pure (m_same_stands [webD "Web" n h1, webD "Web" n h2]) (.bl (due n h1.length h1 h2).isNone) := by
  intro Q E q
  unfold m_same_stands w_same_stands
  walk_at "st"
  refine check_stands_spec n h1 h2 hl h8 _ _ ?_
  walk_at "st"
  refine first_spec n h1 h2 k1 k2 hl h8 _ _ ?_
  walk_at "st"
  cases e : due n h1.length h1 h2 with
  | none =>
    rw [e] at q
    exact q
  | some p =>
    rw [e] at q
    exact q
end Prf

set_option synthInstance.maxHeartbeats 4000000
set_option synthInstance.maxSize 100000
set_option warn.classDefReducibility false
namespace Prf
open PySem PySem.Spec PyProof.Rows L2 DL
def x_check_many : RunE w_check_many := by delta w_check_many; infer_instance
instance : RunE w_check_many := x_check_many
def y_check_many : RunL m_check_many := inferInstanceAs (RunL (runW 2 w_check_many))
instance : RunL m_check_many := y_check_many
def x_check_match : RunE w_check_match := by delta w_check_match; infer_instance
instance : RunE w_check_match := x_check_match
def y_check_match : RunL m_check_match := inferInstanceAs (RunL (runW 2 w_check_match))
instance : RunL m_check_match := y_check_match
def x_says_there : RunE w_says_there := by delta w_says_there; infer_instance
instance : RunE w_says_there := x_says_there
def y_says_there : RunL m_says_there := inferInstanceAs (RunL (runW 8 w_says_there))
instance : RunL m_says_there := y_says_there
def x_changing_of : RunE w_changing_of := by delta w_changing_of; infer_instance
instance : RunE w_changing_of := x_changing_of
def y_changing_of : RunL m_changing_of := inferInstanceAs (RunL (runW 5 w_changing_of))
instance : RunL m_changing_of := y_changing_of
def x_is_at_rest : RunE w_is_at_rest := by delta w_is_at_rest; infer_instance
instance : RunE w_is_at_rest := x_is_at_rest
def y_is_at_rest : RunL m_is_at_rest := inferInstanceAs (RunL (runW 3 w_is_at_rest))
instance : RunL m_is_at_rest := y_is_at_rest
def x_all_flags : RunE w_all_flags := by delta w_all_flags; infer_instance
instance : RunE w_all_flags := x_all_flags
def y_all_flags : RunL m_all_flags := inferInstanceAs (RunL (runW 5 w_all_flags))
instance : RunL m_all_flags := y_all_flags
def x_first_unlike_stand : RunE w_first_unlike_stand := by delta w_first_unlike_stand; infer_instance
instance : RunE w_first_unlike_stand := x_first_unlike_stand
def y_first_unlike_stand : RunL m_first_unlike_stand := inferInstanceAs (RunL (runW 4 w_first_unlike_stand))
instance : RunL m_first_unlike_stand := y_first_unlike_stand
def x_check_stands : RunE w_check_stands := by delta w_check_stands; infer_instance
instance : RunE w_check_stands := x_check_stands
def y_check_stands : RunL m_check_stands := inferInstanceAs (RunL (runW 2 w_check_stands))
instance : RunL m_check_stands := y_check_stands
def x_unlike_stand : RunE w_unlike_stand := by delta w_unlike_stand; infer_instance
instance : RunE w_unlike_stand := x_unlike_stand
def y_unlike_stand : RunL m_unlike_stand := inferInstanceAs (RunL (runW 2 w_unlike_stand))
instance : RunL m_unlike_stand := y_unlike_stand
def x_same_stands : RunE w_same_stands := by delta w_same_stands; infer_instance
instance : RunE w_same_stands := x_same_stands
def y_same_stands : RunL m_same_stands := inferInstanceAs (RunL (runW 2 w_same_stands))
instance : RunL m_same_stands := y_same_stands
def x__law_word : RunE w__law_word := by delta w__law_word; infer_instance
instance : RunE w__law_word := x__law_word
def y__law_word : RunL m__law_word := inferInstanceAs (RunL (runW 5 w__law_word))
instance : RunL m__law_word := y__law_word
end Prf

namespace Prf
open PySem PySem.Spec PyProof.Rows L2 DL
local macro_rules | `(tactic| walk_at "st") => `(tactic| simp only [o_shl, o_shr, o_band, o_bor, o_inv, o_max2, o_min2, k_isi2, o_rng1, o_rng2, k_rH, kRH_e, o_minL, o_maxL, o_repL, o_repA, o_repS, k_ixG, kIG_e, k_pop, kPop_e, k_dc, kDc_e, o_sortKT, o_sortN, o_sortSet, k_seq, kSeq_n, kSeq_b, kSeq_c, kSeq_r, optK_s, kVar_s, k_var, k_c, k_un, kUn_e, k_bin, kB1_e, kB2_e, k_nil, k_cons, kC1_e, kC2_e, k_app, kApp_e, kBl_e, k_bl, kTr_b, kTr_i, kTr_n, k_tr, k_not, kNot_e, k_and, kAnd_t, kAnd_f, k_or, kOr_t, kOr_f, k_andV, kAndV_t, kAndV_f, k_orV, kOrV_t, kOrV_f, k_notV, kNotV_e, k_if, kIf_t, kIf_f, k_up, kUp_e, k_tup, kTup_e, k_lst, kLst_e, k_next, k_brk, k_cont, k_asg, kAsg_e, k_expr, kExp_e, k_ret, kRet_e, k_retN, kIte_t, kIte_f, k_for, kFor_e, k_comp, kComp_e, k_yes, k_tName, k_tTup, k_tCons, kTC_e, k_tNil, kNx_e, k_asgT, kAT_e, k_par, kP1_e, kP2_e, kSq_e, k_sq, seqB_t, seqB_l, imK_e, kSqr_e, k_sqr, enK_e, kEn_e, k_en, kR1_e, k_r1, k_r2, kR21_e, kR22_e, k_zip, kZ1_e, kZ2_l, kZ2_t, k_chain, kCh1_e, kCh2_e, kCh2_t, kCh2_f, kCh3_e, k_slice, kSl1_e, kSl2_e, kSl3_e, k_noPart, k_part, kPart_e, k_run, kRun_r, kRun_n, k_runM, kRunM_n, kLA_s, k_append, kApd1_e, kApd2_e, k_extend, kExt1_e, kExt2_e, k_setIx, kSix0_e, kSix1_e, kSix2_e, kSix3_e, kDA_s, k_put, kPut0_e, kPut1_e, kPut2_i, kPut2_s, k_aug, kAug0_s, kAug1_e, kAug2_e, k_len, lenB_t, lenB_l, lenB_d, k_ix, k_ixr, k_fld, kB_e, kBn_e, k_in, k_nin, k_eq, k_ne, k_isi, k_is, k_isn, nonB, o_add, o_addT, o_addL, o_sub, o_mul, o_div, o_mod, o_pow, o_lt, o_le, o_gt, o_ge, o_int, o_intB, o_abs, o_neg, o_tup, o_tupT, o_tupR, o_tupTR, o_lst, o_lstR, o_lstT, o_lstTR, o_lstD, o_sort, o_sortR, o_sortT, o_sortTR, o_sortD, o_ord, o_sortIt, upL_v, upOk_v, List.getElem?_cons_zero, List.getElem?_cons_succ, List.set_cons_zero, List.set_cons_succ, List.map_cons, List.map_nil, List.cons_append, List.nil_append, List.length_cons, List.length_nil, List.replicate, wipeD, kLoop_n, kLoop_c, kLoop_b, kLoop_r, kBody_e, k_make, kMake_e, kOA_s, k_setFld, kSF0_e, kSF1_e, k_meth, kMe0_e, kMe1_e, kMe2_e, k_get, kGet0_e, kGet1_e, kGet2_i, kGet2_s, k_rep, k_raise, k_try, kTry_e, handW_n, k_raise1, kRaise1_e, k_tryA, kTryA_e, handAW_n, k_zip2, kZw1_e, o_isb, k_callV, kCV0_e, kCV1_e, k_call0, ne_eq, true_and, and_true, Bool.not_true, Bool.not_false, Int.toNat_natCast, decide_true, decide_false])
local macro_rules | `(tactic| walk_at "it") => `(tactic| (rw [k_ite]; walk_at "st"))
/-! ### the words -/
def f00 : Hd := ⟨true, 0⟩
abbrev one9 (k : Nat) : List (List Hd) := List.replicate k [f00]
abbrev wd (n k : Nat) : D := webD "Web" n (one9 k)
theorem word1 (k : Nat) (hk : k < 2) : Pure (m__law_word [.int (k : Nat), wd 1 1, wd 2 1]) (.str "match") := run_ok (by
  match k, hk with
  | 0, _ => kernel_rfl
  | 1, _ => kernel_rfl)
theorem word2 (k : Nat) (hk : k < 2) : Pure (m__law_word [.int (k : Nat), wd 1 1, wd 1 0]) (.str "match") := run_ok (by
  match k, hk with
  | 0, _ => kernel_rfl
  | 1, _ => kernel_rfl)
theorem word3 (k : Nat) (hk : k < 2) : Pure (m__law_word [.int (k : Nat), wd 1 9, wd 1 9]) (.int 8) := run_ok (by
  match k, hk with
  | 0, _ => kernel_rfl
  | 1, _ => kernel_rfl)
theorem word4 (k : Nat) (hk : k < 2) : Pure (m__law_word [.int (k : Nat), wd 1 9, wd 1 8]) (.str "match") := run_ok (by
  match k, hk with
  | 0, _ => kernel_rfl
  | 1, _ => kernel_rfl)
/-- eight houses of one share, eight of three, all of one person -/
theorem due8 : due 1 8 (one9 8) (List.replicate 8 [f00, f00, f00]) = none := by decide +kernel
end Prf

namespace Prf
open PySem PySem.Spec PyProof.Rows L2 DL
local macro_rules | `(tactic| walk_at "st") => `(tactic| simp only [o_shl, o_shr, o_band, o_bor, o_inv, o_max2, o_min2, k_isi2, o_rng1, o_rng2, k_rH, kRH_e, o_minL, o_maxL, o_repL, o_repA, o_repS, k_ixG, kIG_e, k_pop, kPop_e, k_dc, kDc_e, o_sortKT, o_sortN, o_sortSet, k_seq, kSeq_n, kSeq_b, kSeq_c, kSeq_r, optK_s, kVar_s, k_var, k_c, k_un, kUn_e, k_bin, kB1_e, kB2_e, k_nil, k_cons, kC1_e, kC2_e, k_app, kApp_e, kBl_e, k_bl, kTr_b, kTr_i, kTr_n, k_tr, k_not, kNot_e, k_and, kAnd_t, kAnd_f, k_or, kOr_t, kOr_f, k_andV, kAndV_t, kAndV_f, k_orV, kOrV_t, kOrV_f, k_notV, kNotV_e, k_if, kIf_t, kIf_f, k_up, kUp_e, k_tup, kTup_e, k_lst, kLst_e, k_next, k_brk, k_cont, k_asg, kAsg_e, k_expr, kExp_e, k_ret, kRet_e, k_retN, kIte_t, kIte_f, k_for, kFor_e, k_comp, kComp_e, k_yes, k_tName, k_tTup, k_tCons, kTC_e, k_tNil, kNx_e, k_asgT, kAT_e, k_par, kP1_e, kP2_e, kSq_e, k_sq, seqB_t, seqB_l, imK_e, kSqr_e, k_sqr, enK_e, kEn_e, k_en, kR1_e, k_r1, k_r2, kR21_e, kR22_e, k_zip, kZ1_e, kZ2_l, kZ2_t, k_chain, kCh1_e, kCh2_e, kCh2_t, kCh2_f, kCh3_e, k_slice, kSl1_e, kSl2_e, kSl3_e, k_noPart, k_part, kPart_e, k_run, kRun_r, kRun_n, k_runM, kRunM_n, kLA_s, k_append, kApd1_e, kApd2_e, k_extend, kExt1_e, kExt2_e, k_setIx, kSix0_e, kSix1_e, kSix2_e, kSix3_e, kDA_s, k_put, kPut0_e, kPut1_e, kPut2_i, kPut2_s, k_aug, kAug0_s, kAug1_e, kAug2_e, k_len, lenB_t, lenB_l, lenB_d, k_ix, k_ixr, k_fld, kB_e, kBn_e, k_in, k_nin, k_eq, k_ne, k_isi, k_is, k_isn, nonB, o_add, o_addT, o_addL, o_sub, o_mul, o_div, o_mod, o_pow, o_lt, o_le, o_gt, o_ge, o_int, o_intB, o_abs, o_neg, o_tup, o_tupT, o_tupR, o_tupTR, o_lst, o_lstR, o_lstT, o_lstTR, o_lstD, o_sort, o_sortR, o_sortT, o_sortTR, o_sortD, o_ord, o_sortIt, upL_v, upOk_v, List.getElem?_cons_zero, List.getElem?_cons_succ, List.set_cons_zero, List.set_cons_succ, List.map_cons, List.map_nil, List.cons_append, List.nil_append, List.length_cons, List.length_nil, List.replicate, wipeD, kLoop_n, kLoop_c, kLoop_b, kLoop_r, kBody_e, k_make, kMake_e, kOA_s, k_setFld, kSF0_e, kSF1_e, k_meth, kMe0_e, kMe1_e, kMe2_e, k_get, kGet0_e, kGet1_e, kGet2_i, kGet2_s, k_rep, k_raise, k_try, kTry_e, handW_n, k_raise1, kRaise1_e, k_tryA, kTryA_e, handAW_n, k_zip2, kZw1_e, o_isb, k_callV, kCV0_e, kCV1_e, k_call0, ne_eq, true_and, and_true, Bool.not_true, Bool.not_false, Int.toNat_natCast, decide_true, decide_false])
local macro_rules | `(tactic| walk_at "it") => `(tactic| (rw [k_ite]; walk_at "st"))
/-! ### the law's webs -/
theorem WebIn.house {n : Nat} {hs : List (List Hd)} (k : WebIn n hs) {s : List Hd} (h : s ∈ hs) : HouseOk n hs.length s := ⟨k.l1 s h, k.l15 s h, k.odd s h, k.fit s h, k.rise s h⟩
theorem webIn_all {n : Nat} {hs : List (List Hd)} (n1 : 1 ≤ n) (n6 : n ≤ 6) (len : hs.length ≤ 12) (h : ∀ s ∈ hs, HouseOk n hs.length s) : WebIn n hs :=
  ⟨n1, n6, len, fun s m => (h s m).1, fun s m => (h s m).2.1, fun s m => (h s m).2.2.1, fun s m => (h s m).2.2.2.1, fun s m => (h s m).2.2.2.2⟩
theorem WebIn.put {n : Nat} {hs : List (List Hd)} (k : WebIn n hs) {i : Nat} {t : List Hd} (h : HouseOk n hs.length t) : WebIn n (hs.set i t) := by
  refine webIn_all k.n1 k.n6 (by rw [List.length_set]; exact k.len) fun s m => ?_
  rw [List.length_set]
  rcases List.mem_or_eq_of_mem_set m with m | rfl
  · exact k.house m
  · exact h
theorem WebIn.toFit {n : Nat} {hs : List (List Hd)} (k : WebIn n hs) : Fit n hs := ⟨k.n6, k.len, k.l15, k.odd, k.fit⟩
/-- drawn holders, as a house -/
theorem drawn_house (n H m : Nat) (lean : Int) (n0 : 0 < n) (n1 : n < 1000) (H1 : H < 1000) (w : DL.Env → W D) (ρ0 : DL.Env) (j : Nat) (hw : ∀ k : Nat, Some' (w (ρ0.set j (some (.int (k : Int))))) (HoldOk n H)) :
    Some' (compL (tName j) yesW w ρ0 (rngD 0 m)) (fun ds => ∃ s : List Hd, ds = s.map hdD ∧ s.length = m ∧ ∀ h ∈ s, if h.f then h.n < n else h.n < H) := by
  intro Q E q
  rw [rngNat]
  refine compL_some (fun i : Nat => D.int (i : Int)) (HoldOk n H) (List.range m) (fun k hk => ⟨_, fun Q E q => q, hw k⟩) _ _ fun ds ⟨hds, hok⟩ => ?_
  obtain ⟨s, rfl, hs⟩ := holds_list _ _ ds hok
  rw [List.length_map, List.length_range] at hds
  exact q _ ⟨s, rfl, hds, hs⟩
theorem houses_list (n H : Nat) : ∀ ds : List D, (∀ d ∈ ds, ∃ s, d = shD s ∧ HouseOk n H s) → ∃ hs : List (List Hd), ds = hs.map shD ∧ hs.length = ds.length ∧ ∀ s ∈ hs, HouseOk n H s
  | [], _ => ⟨[], rfl, rfl, by simp⟩
  | d :: ds, h => by
    obtain ⟨s, rfl, k⟩ := h d (by simp)
    obtain ⟨hs, e, l, ks⟩ := houses_list n H ds fun x hx => h x (by simp [hx])
    refine ⟨s :: hs, by rw [e]; rfl, by rw [List.length_cons, l]; rfl, fun t ht => ?_⟩
    rcases List.mem_cons.mp ht with rfl | ht
    · exact k
    · exact ks t ht
abbrev bendW : DL.Env → W Fl := (iteW (blW (binW gtW (unW lenW (varW 4)) (cW (.int 0)))) (seqW (asgW 5 (appW m__law_draw (consW (varW 1) (consW (unW lenW (varW 4)) nilW)))) (seqW (asgW 6 (appW m__law_draw (consW (varW 1) (consW (cW (.int 3)) nilW)))) (iteW (blW (binW eqW (varW 6) (cW (.int 0)))) (setIxW 4 (varW 5) (unW (tupOfW .v) (unW (sortW .v) (binW addW (sliceW (binW ixrW (varW 4) (varW 5)) (partW (cW (.int 1))) noPartW) (tupW (consW (appW m__law_holder (consW (varW 1) (consW (binW ixW (varW 3) (cW (.int 0))) (consW (unW lenW (varW 4)) (consW (cW (.int 3)) nilW))))) nilW)))))) (iteW (andT (blW (binW eqW (varW 6) (cW (.int 1)))) (blW (binW ltW (unW lenW (binW ixrW (varW 4) (varW 5))) (cW (.int 6))))) (setIxW 4 (varW 5) (unW (tupOfW .v) (unW (sortW .v) (binW addW (binW addW (binW ixrW (varW 4) (varW 5)) (binW ixrW (varW 4) (varW 5))) (sliceW (binW ixrW (varW 4) (varW 5)) noPartW (partW (cW (.int 1)))))))) (iteW (blW (binW eqW (varW 6) (cW (.int 2)))) (asgW 4 (compW [8] (seqIr (varW 4)) (tName 8) yesW (unW (tupOfW .v) (unW (sortW .v) (compW [7] (rangeI1 (cW (.int 3))) (tName 7) yesW (appW m__law_holder (consW (varW 1) (consW (binW ixW (varW 3) (cW (.int 0))) (consW (unW lenW (varW 4)) (consW (cW (.int 3)) nilW)))))))))) nextW))))) nextW)
abbrev askW : DL.Env → W Fl := (seqW (asgW 9 (tupW (consW (binW ixW (varW 3) (cW (.int 0))) (consW (unW (tupOfW .r) (varW 4)) nilW)))) (seqW (parW 10 11 (appW m__law_web (consW (varW 3) nilW)) (appW m__law_web (consW (varW 9) nilW))) (seqW (asgW 12 (appW m__law_unlike (consW (varW 3) (consW (varW 9) nilW)))) (seqW (iteW (orT (blW (binW neW (appW m_unlike_stand (consW (varW 10) (consW (varW 11) nilW))) (varW 12))) (orT (blW (binW neW (appW m_same_stands (consW (varW 10) (consW (varW 11) nilW))) (binW isW (varW 12) (cW .non)))) (notT (blW (unW (isiW "bool") (appW m_same_stands (consW (varW 10) (consW (varW 11) nilW)))))))) (retW (cW (.bl false))) nextW) (iteW (orT (blW (binW neW (appW m_unlike_stand (consW (varW 11) (consW (varW 10) nilW))) (varW 12))) (blW (binW isnW (appW m_unlike_stand (consW (varW 10) (consW (varW 10) nilW))) (cW .non)))) (retW (cW (.bl false))) nextW)))))
abbrev greatW : DL.Env → W Fl := (iteW (blW (binW eqW (appW m__law_draw (consW (varW 1) (consW (cW (.int 12)) nilW))) (cW (.int 0)))) (seqW (asgW 4 (compW [8] (rangeI1 (cW (.int 8))) (tName 8) yesW (unW (tupOfW .v) (unW (sortW .v) (compW [7] (rangeI1 (binW ixW (lstW (consW (cW (.int 1)) (consW (cW (.int 3)) nilW))) (appW m__law_draw (consW (varW 1) (consW (cW (.int 2)) nilW))))) (tName 7) yesW (appW m__law_holder (consW (varW 1) (consW (cW (.int 2)) (consW (cW (.int 8)) (consW (cW (.int 2)) nilW)))))))))) (seqW (asgW 13 (unW (lstOfW .r) (varW 4))) (seqW (asgW 5 (appW m__law_draw (consW (varW 1) (consW (cW (.int 8)) nilW)))) (seqW (setIxW 13 (varW 5) (unW (tupOfW .v) (unW (sortW .v) (binW addW (sliceW (binW ixrW (varW 13) (varW 5)) (partW (cW (.int 1))) noPartW) (tupW (consW (appW m__law_holder (consW (varW 1) (consW (cW (.int 2)) (consW (cW (.int 8)) (consW (cW (.int 2)) nilW))))) nilW)))))) (seqW (asgTW (tupW (consW (tupW (consW (cW (.int 2)) (consW (unW (tupOfW .r) (varW 4)) nilW))) (consW (tupW (consW (cW (.int 2)) (consW (unW (tupOfW .r) (varW 13)) nilW))) nilW))) (tTup' (tCons' (tName 3) (tCons' (tName 9) tNil')))) (iteW (blW (binW neW (appW m_unlike_stand (consW (appW m__law_web (consW (varW 3) nilW)) (consW (appW m__law_web (consW (varW 9) nilW)) nilW))) (appW m__law_unlike (consW (varW 3) (consW (varW 9) nilW))))) (retW (cW (.bl false))) nextW)))))) nextW)
abbrev allNewW : DL.Env → W Fl := (iteW (blW (binW eqW (varW 6) (cW (.int 2)))) (asgW 4 (compW [8] (seqIr (varW 4)) (tName 8) yesW (unW (tupOfW .v) (unW (sortW .v) (compW [7] (rangeI1 (cW (.int 3))) (tName 7) yesW (appW m__law_holder (consW (varW 1) (consW (binW ixW (varW 3) (cW (.int 0))) (consW (unW lenW (varW 4)) (consW (cW (.int 3)) nilW)))))))))) nextW)
theorem all_new (n : Nat) (h1 : List (List Hd)) (k1 : WebIn n h1) (kd : Nat) (y2 y5 y7 y8 y9 y10 y11 y12 y13 y14 y15 y16 : Option D) : Goes allNewW [none, some .pool, y2, some (toldD n h1), some (.lst (h1.map shD)), y5, some (.int (kd : Nat)), y7, y8, y9, y10, y11, y12, y13, y14, y15, y16]
    (fun ρ' => ∃ h2 y5 y6 y7 y8, WebIn n h2 ∧ h2.length = h1.length ∧ ρ' = [none, some .pool, y2, some (toldD n h1), some (.lst (h2.map shD)), y5, y6, y7, y8, y9, y10, y11, y12, y13, y14, y15, y16]) := by
  intro QF E q
  have n1 := k1.n1
  have n6 := k1.n6
  have hlen := k1.len
  unfold allNewW
  walk_at "it"
  refine ⟨plain_int _ _, plain_int _ _, ?_⟩
  refine kIte_of (fun _ => ?_) fun _ => ?_
  · walk_at "st"
    refine ⟨imL_shD h1, ?_⟩
    refine compL_some shD (fun d => ∃ t, d = shD t ∧ HouseOk n h1.length t) h1 (fun s hs => ⟨_, fun Q E q => q, fun Q E q => ?_⟩) _ _ fun ds ⟨hds, hok⟩ => ?_
    · walk_at "st"
      refine ⟨by decide, ?_⟩
      refine drawn_house n h1.length 3 3 (by omega) (by omega) (by omega) _ _ 7 (fun k Q E q => ?_) _ _ ?_
      · walk_at "st"
        rw [ix_told0]
        walk_at "st"
        rw [List.length_map]
        exact holder_spec n h1.length 3 (by omega) (by omega) (by omega) _ _ q
      · rintro _ ⟨t, rfl, lt, ft⟩
        walk_at "st"
        rw [sortH_map]
        refine ⟨sortOk_hd t, ?_⟩
        exact q _ ⟨_, rfl, house_sorted (by omega) (by omega) (by omega) ft⟩
    · obtain ⟨h2, rfl, l2, k2⟩ := houses_list n h1.length ds hok
      have l3 : h2.length = h1.length := by rw [l2, hds]
      walk_at "st"
      exact q _ ⟨h2, _, _, _, _, webIn_all n1 n6 (by omega) (fun t ht => by rw [l3]; exact k2 t ht), l3, rfl⟩
  · walk_at "st"
    exact q _ ⟨h1, _, _, _, _, k1, rfl, rfl⟩
theorem bend_spec (n : Nat) (h1 : List (List Hd)) (k1 : WebIn n h1) (y2 y5 y6 y7 y8 y9 y10 y11 y12 y13 y14 y15 y16 : Option D) : Goes bendW [none, some .pool, y2, some (toldD n h1), some (.lst (h1.map shD)), y5, y6, y7, y8, y9, y10, y11, y12, y13, y14, y15, y16]
    (fun ρ' => ∃ h2 y5 y6 y7 y8, WebIn n h2 ∧ h2.length = h1.length ∧ ρ' = [none, some .pool, y2, some (toldD n h1), some (.lst (h2.map shD)), y5, y6, y7, y8, y9, y10, y11, y12, y13, y14, y15, y16]) := by
  intro QF E q
  have hz : sizeLine = 16777216 := sizeLine_eq
  have n1 := k1.n1
  have n6 := k1.n6
  have hlen := k1.len
  unfold bendW
  walk_at "it"
  rw [List.length_map]
  refine kIte_of (fun h0 => ?_) fun h0 => ?_
  · have hl : 0 < h1.length := by simpa using h0
    walk_at "st"
    rw [List.length_map]
    refine draw_spec h1.length hl (by omega) _ _ ?_
    rintro _ ⟨at_, hat, rfl⟩
    walk_at "st"
    refine draw_spec 3 (by omega) (by omega) _ _ ?_
    rintro _ ⟨kd, hkd, rfl⟩
    walk_at "st"
    obtain ⟨s, es⟩ : ∃ s, h1[at_]? = some s := ⟨h1[at_], List.getElem?_eq_getElem hat⟩
    have hm := List.mem_of_getElem? es
    have sk := k1.house hm
    have s15 := sk.2.1
    have s1 := sk.1
    have so := sk.2.2.1
    have sf := sk.2.2.2.1
    have ixs := ixB_ln shD h1 at_ es
    walk_at "it"
    refine ⟨plain_int _ _, plain_int _ _, ?_⟩
    refine kIte_of (fun _ => ?_) fun _ => ?_
    · walk_at "st"
      rw [ixs]
      walk_at "st"
      refine ⟨im_shD s, ?_⟩
      have sl : sliceB (some (1 : Int)) none (shD s) = some (.tup ((s.drop 1).map hdD)) := by
        rw [List.map_drop]; exact sl_td _ 1
      rw [sl]
      walk_at "st"
      rw [ix_told0]
      walk_at "st"
      rw [List.length_map]
      refine holder_spec n h1.length 3 (by omega) (by omega) (by omega) _ _ ?_
      rintro _ ⟨h, rfl, hh⟩
      walk_at "st"
      have ea : (s.drop 1).map hdD ++ [hdD h] = (s.drop 1 ++ [h]).map hdD := by rw [List.map_append]; rfl
      rw [ea]
      refine ⟨by rw [List.length_map, List.length_drop, hz]; omega, ?_⟩
      rw [sortH_map]
      refine ⟨sortOk_hd _, ?_⟩
      rw [List.length_map, ixN_nat hat]
      walk_at "st"
      have e9 : (h1.map shD).set at_ (D.tup ((sortH (s.drop 1 ++ [h])).map hdD)) = (h1.set at_ (sortH (s.drop 1 ++ [h]))).map shD := by rw [List.map_set]; rfl
      rw [e9]
      refine q _ ⟨h1.set at_ (sortH (s.drop 1 ++ [h])), _, _, _, _, k1.put (house_sorted ?_ ?_ ?_ fun x hx => ?_), by rw [List.length_set], rfl⟩
      · rw [List.length_append, List.length_drop, List.length_singleton]; omega
      · rw [List.length_append, List.length_drop, List.length_singleton]; omega
      · rw [List.length_append, List.length_drop, List.length_singleton]; omega
      · rcases List.mem_append.mp hx with hx | hx
        · exact sf x (List.mem_of_mem_drop hx)
        · simp at hx; subst hx; exact hh
    · walk_at "it"
      refine ⟨plain_int _ _, plain_int _ _, ?_⟩
      refine kAnd_of (fun _ => ?_) fun _ => ?_
      · walk_at "st"
        rw [ixs]
        walk_at "st"
        rw [len_shD]
        walk_at "st"
        refine ⟨im_shD s, ?_⟩
        refine kIte_of (fun h6 => ?_) fun _ => ?_
        · have h6 : s.length < 6 := by
            have := of_decide_eq_true h6
            omega
          have ixt : ixB (.lst (h1.map shD)) (.int (at_ : Nat)) = some (.tup (s.map hdD)) := ixs
          have imt : im (.tup (s.map hdD)) = true := im_shD s
          have sl : sliceB none (some (1 : Int)) (.tup (s.map hdD)) = some (.tup ((s.take 1).map hdD)) := by
            rw [List.map_take]
            exact sl_lo _ 1 (by rw [List.length_map]; omega)
          walk_at "st"
          rw [ixt]
          walk_at "st"
          refine ⟨imt, ?_⟩
          rw [ixt]
          walk_at "st"
          refine ⟨imt, ?_⟩
          refine ⟨by rw [List.length_map, hz]; omega, ?_⟩
          rw [ixt]
          walk_at "st"
          refine ⟨imt, ?_⟩
          rw [sl]
          walk_at "st"
          have ea : (s.map hdD ++ s.map hdD) ++ (s.take 1).map hdD = (s ++ s ++ s.take 1).map hdD := by rw [List.map_append, List.map_append]
          rw [ea]
          refine ⟨by rw [List.length_append, List.length_map, List.length_map, List.length_take, hz]; omega, ?_⟩
          rw [sortH_map]
          refine ⟨sortOk_hd _, ?_⟩
          rw [List.length_map, ixN_nat hat]
          walk_at "st"
          have e9 : (h1.map shD).set at_ (D.tup ((sortH (s ++ s ++ s.take 1)).map hdD)) = (h1.set at_ (sortH (s ++ s ++ s.take 1))).map shD := by rw [List.map_set]; rfl
          rw [e9]
          have l9 : (s ++ s ++ s.take 1).length = 2 * s.length + 1 := by rw [List.length_append, List.length_append, List.length_take]; omega
          refine q _ ⟨h1.set at_ (sortH (s ++ s ++ s.take 1)), _, _, _, _, k1.put (house_sorted (by omega) (by omega) (by omega) fun x hx => ?_), by rw [List.length_set], rfl⟩
          rcases List.mem_append.mp hx with hx | hx
          · rcases List.mem_append.mp hx with hx | hx
            · exact sf x hx
            · exact sf x hx
          · exact sf x (List.mem_of_mem_take hx)
        · exact all_new n h1 k1 kd _ _ _ _ _ _ _ _ _ _ _ _ _ _ q
      · exact all_new n h1 k1 kd _ _ _ _ _ _ _ _ _ _ _ _ _ _ q
  · walk_at "st"
    exact q _ ⟨h1, _, _, _, _, k1, rfl, rfl⟩
end Prf

namespace Prf
open PySem PySem.Spec PyProof.Rows L2 DL
local macro_rules | `(tactic| walk_at "st") => `(tactic| simp only [o_shl, o_shr, o_band, o_bor, o_inv, o_max2, o_min2, k_isi2, o_rng1, o_rng2, k_rH, kRH_e, o_minL, o_maxL, o_repL, o_repA, o_repS, k_ixG, kIG_e, k_pop, kPop_e, k_dc, kDc_e, o_sortKT, o_sortN, o_sortSet, k_seq, kSeq_n, kSeq_b, kSeq_c, kSeq_r, optK_s, kVar_s, k_var, k_c, k_un, kUn_e, k_bin, kB1_e, kB2_e, k_nil, k_cons, kC1_e, kC2_e, k_app, kApp_e, kBl_e, k_bl, kTr_b, kTr_i, kTr_n, k_tr, k_not, kNot_e, k_and, kAnd_t, kAnd_f, k_or, kOr_t, kOr_f, k_andV, kAndV_t, kAndV_f, k_orV, kOrV_t, kOrV_f, k_notV, kNotV_e, k_if, kIf_t, kIf_f, k_up, kUp_e, k_tup, kTup_e, k_lst, kLst_e, k_next, k_brk, k_cont, k_asg, kAsg_e, k_expr, kExp_e, k_ret, kRet_e, k_retN, kIte_t, kIte_f, k_for, kFor_e, k_comp, kComp_e, k_yes, k_tName, k_tTup, k_tCons, kTC_e, k_tNil, kNx_e, k_asgT, kAT_e, k_par, kP1_e, kP2_e, kSq_e, k_sq, seqB_t, seqB_l, imK_e, kSqr_e, k_sqr, enK_e, kEn_e, k_en, kR1_e, k_r1, k_r2, kR21_e, kR22_e, k_zip, kZ1_e, kZ2_l, kZ2_t, k_chain, kCh1_e, kCh2_e, kCh2_t, kCh2_f, kCh3_e, k_slice, kSl1_e, kSl2_e, kSl3_e, k_noPart, k_part, kPart_e, k_run, kRun_r, kRun_n, k_runM, kRunM_n, kLA_s, k_append, kApd1_e, kApd2_e, k_extend, kExt1_e, kExt2_e, k_setIx, kSix0_e, kSix1_e, kSix2_e, kSix3_e, kDA_s, k_put, kPut0_e, kPut1_e, kPut2_i, kPut2_s, k_aug, kAug0_s, kAug1_e, kAug2_e, k_len, lenB_t, lenB_l, lenB_d, k_ix, k_ixr, k_fld, kB_e, kBn_e, k_in, k_nin, k_eq, k_ne, k_isi, k_is, k_isn, nonB, o_add, o_addT, o_addL, o_sub, o_mul, o_div, o_mod, o_pow, o_lt, o_le, o_gt, o_ge, o_int, o_intB, o_abs, o_neg, o_tup, o_tupT, o_tupR, o_tupTR, o_lst, o_lstR, o_lstT, o_lstTR, o_lstD, o_sort, o_sortR, o_sortT, o_sortTR, o_sortD, o_ord, o_sortIt, upL_v, upOk_v, List.getElem?_cons_zero, List.getElem?_cons_succ, List.set_cons_zero, List.set_cons_succ, List.map_cons, List.map_nil, List.cons_append, List.nil_append, List.length_cons, List.length_nil, List.replicate, wipeD, kLoop_n, kLoop_c, kLoop_b, kLoop_r, kBody_e, k_make, kMake_e, kOA_s, k_setFld, kSF0_e, kSF1_e, k_meth, kMe0_e, kMe1_e, kMe2_e, k_get, kGet0_e, kGet1_e, kGet2_i, kGet2_s, k_rep, k_raise, k_try, kTry_e, handW_n, k_raise1, kRaise1_e, k_tryA, kTryA_e, handAW_n, k_zip2, kZw1_e, o_isb, k_callV, kCV0_e, kCV1_e, k_call0, ne_eq, true_and, and_true, Bool.not_true, Bool.not_false, Int.toNat_natCast, decide_true, decide_false])
local macro_rules | `(tactic| walk_at "it") => `(tactic| (rw [k_ite]; walk_at "st"))
/-! ### what is asked of two webs -/

theorem pl_due (d : Option (List Bool × List Bool)) : DL.plain 50 (dueD d) = true := by
  cases d with
  | none => rfl
  | some p =>
    have h : ∀ v : List Bool, DL.plain 49 (flD v) = true := fun v => plF_tup (plF_bl 48) v
    show DL.plain 50 (.tup [flD p.1, flD p.2]) = true
    simp [DL.plain, h]
theorem eq_due (d : Option (List Bool × List Bool)) : eqD (dueD d) (dueD d) = true := eqv_self _ (pl_due d)
theorem none_due (d : Option (List Bool × List Bool)) : nonB (dueD d) = d.isNone := by cases d <;> rfl
theorem ask_spec (n : Nat) (h1 h2 : List (List Hd)) (k1 : WebIn n h1) (k2 : WebIn n h2) (hl : h2.length = h1.length) (h8 : h1.length ≤ 8) (y2 y5 y6 y7 y8 y9 y10 y11 y12 y13 y14 y15 y16 : Option D) : Goes askW [none, some .pool, y2, some (toldD n h1), some (.lst (h2.map shD)), y5, y6, y7, y8, y9, y10, y11, y12, y13, y14, y15, y16]
    (fun ρ' => ∃ y3 y4 y5 y6 y7 y8 y9 y10 y11 y12 y13 y14 y15 y16, ρ' = [none, some .pool, y2, y3, y4, y5, y6, y7, y8, y9, y10, y11, y12, y13, y14, y15, y16]) := by
  intro QF E q
  unfold askW
  walk_at "st"
  rw [ix_told0]
  walk_at "st"
  refine ⟨.inr (imL_shD _), ?_⟩
  have e4 : D.tup [D.int (n : Nat), D.tup (h2.map shD)] = toldD n h2 := rfl
  rw [e4]
  refine law_web_spec n h1 k1 _ _ ?_
  walk_at "st"
  refine law_web_spec n h2 k2 _ _ ?_
  walk_at "st"
  refine law_unlike_spec n h1 h2 k1.toFit k2.toFit hl.symm h8 _ _ ?_
  walk_at "st"
  walk_at "it"
  refine unlike_spec n h1 h2 k1.toFit k2.toFit hl.symm h8 _ _ ?_
  walk_at "st"
  refine ⟨pl_due _, pl_due _, ?_⟩
  rw [eq_due]
  walk_at "st"
  refine same_spec n h1 h2 k1.toFit k2.toFit hl.symm h8 _ _ ?_
  walk_at "st"
  refine ⟨plain_b _ _, plain_b _ _, ?_⟩
  have en := none_due (due n h1.length h1 h2)
  unfold nonB at en
  rw [en, eqD_bb, decide_eq_true rfl]
  walk_at "st"
  refine same_spec n h1 h2 k1.toFit k2.toFit hl.symm h8 _ _ ?_
  have t1 : ∀ b, tyN (.bl b) = some "bool" := fun _ => rfl
  walk_at "st"
  rw [t1]
  walk_at "st"
  rw [subT_bb]
  walk_at "st"
  walk_at "it"
  refine unlike_spec n h2 h1 k2.toFit k1.toFit hl (by omega) _ _ ?_
  walk_at "st"
  refine ⟨pl_due _, pl_due _, ?_⟩
  rw [hl, stand_symm, eq_due]
  walk_at "st"
  refine unlike_spec n h1 h1 k1.toFit k1.toFit rfl h8 _ _ ?_
  walk_at "st"
  rw [due_self, show dueD none = D.non from rfl]
  walk_at "st"
  exact q _ ⟨_, _, _, _, _, _, _, _, _, _, _, _, _, _, rfl⟩
end Prf

namespace Prf
open PySem PySem.Spec PyProof.Rows L2 DL
local macro_rules | `(tactic| walk_at "st") => `(tactic| simp only [o_shl, o_shr, o_band, o_bor, o_inv, o_max2, o_min2, k_isi2, o_rng1, o_rng2, k_rH, kRH_e, o_minL, o_maxL, o_repL, o_repA, o_repS, k_ixG, kIG_e, k_pop, kPop_e, k_dc, kDc_e, o_sortKT, o_sortN, o_sortSet, k_seq, kSeq_n, kSeq_b, kSeq_c, kSeq_r, optK_s, kVar_s, k_var, k_c, k_un, kUn_e, k_bin, kB1_e, kB2_e, k_nil, k_cons, kC1_e, kC2_e, k_app, kApp_e, kBl_e, k_bl, kTr_b, kTr_i, kTr_n, k_tr, k_not, kNot_e, k_and, kAnd_t, kAnd_f, k_or, kOr_t, kOr_f, k_andV, kAndV_t, kAndV_f, k_orV, kOrV_t, kOrV_f, k_notV, kNotV_e, k_if, kIf_t, kIf_f, k_up, kUp_e, k_tup, kTup_e, k_lst, kLst_e, k_next, k_brk, k_cont, k_asg, kAsg_e, k_expr, kExp_e, k_ret, kRet_e, k_retN, kIte_t, kIte_f, k_for, kFor_e, k_comp, kComp_e, k_yes, k_tName, k_tTup, k_tCons, kTC_e, k_tNil, kNx_e, k_asgT, kAT_e, k_par, kP1_e, kP2_e, kSq_e, k_sq, seqB_t, seqB_l, imK_e, kSqr_e, k_sqr, enK_e, kEn_e, k_en, kR1_e, k_r1, k_r2, kR21_e, kR22_e, k_zip, kZ1_e, kZ2_l, kZ2_t, k_chain, kCh1_e, kCh2_e, kCh2_t, kCh2_f, kCh3_e, k_slice, kSl1_e, kSl2_e, kSl3_e, k_noPart, k_part, kPart_e, k_run, kRun_r, kRun_n, k_runM, kRunM_n, kLA_s, k_append, kApd1_e, kApd2_e, k_extend, kExt1_e, kExt2_e, k_setIx, kSix0_e, kSix1_e, kSix2_e, kSix3_e, kDA_s, k_put, kPut0_e, kPut1_e, kPut2_i, kPut2_s, k_aug, kAug0_s, kAug1_e, kAug2_e, k_len, lenB_t, lenB_l, lenB_d, k_ix, k_ixr, k_fld, kB_e, kBn_e, k_in, k_nin, k_eq, k_ne, k_isi, k_is, k_isn, nonB, o_add, o_addT, o_addL, o_sub, o_mul, o_div, o_mod, o_pow, o_lt, o_le, o_gt, o_ge, o_int, o_intB, o_abs, o_neg, o_tup, o_tupT, o_tupR, o_tupTR, o_lst, o_lstR, o_lstT, o_lstTR, o_lstD, o_sort, o_sortR, o_sortT, o_sortTR, o_sortD, o_ord, o_sortIt, upL_v, upOk_v, List.getElem?_cons_zero, List.getElem?_cons_succ, List.set_cons_zero, List.set_cons_succ, List.map_cons, List.map_nil, List.cons_append, List.nil_append, List.length_cons, List.length_nil, List.replicate, wipeD, kLoop_n, kLoop_c, kLoop_b, kLoop_r, kBody_e, k_make, kMake_e, kOA_s, k_setFld, kSF0_e, kSF1_e, k_meth, kMe0_e, kMe1_e, kMe2_e, k_get, kGet0_e, kGet1_e, kGet2_i, kGet2_s, k_rep, k_raise, k_try, kTry_e, handW_n, k_raise1, kRaise1_e, k_tryA, kTryA_e, handAW_n, k_zip2, kZw1_e, o_isb, k_callV, kCV0_e, kCV1_e, k_call0, ne_eq, true_and, and_true, Bool.not_true, Bool.not_false, Int.toNat_natCast, decide_true, decide_false])
local macro_rules | `(tactic| walk_at "it") => `(tactic| (rw [k_ite]; walk_at "st"))
/-! ### greater webs -/
theorem pick13 (k : Nat) (hk : k < 2) : ∃ m : Nat, (m = 1 ∨ m = 3) ∧ ixB (.lst [.int 1, .int 3]) (.int (k : Nat)) = some (.int (m : Nat)) := by
  match k, hk with
  | 0, _ => exact ⟨1, .inl rfl, rfl⟩
  | 1, _ => exact ⟨3, .inr rfl, rfl⟩
theorem great_spec (y2 y3 y4 y5 y6 y7 y8 y9 y10 y11 y12 y13 y14 y15 y16 : Option D) : Goes greatW [none, some .pool, y2, y3, y4, y5, y6, y7, y8, y9, y10, y11, y12, y13, y14, y15, y16]
    (fun ρ' => ∃ y2 y3 y4 y5 y6 y7 y8 y9 y10 y11 y12 y13 y14 y15 y16, ρ' = [none, some .pool, y2, y3, y4, y5, y6, y7, y8, y9, y10, y11, y12, y13, y14, y15, y16]) := by
  intro QF E q
  have hz : sizeLine = 16777216 := sizeLine_eq
  unfold greatW
  walk_at "it"
  refine draw_spec 12 (by omega) (by omega) _ _ ?_
  rintro _ ⟨k12, _, rfl⟩
  walk_at "st"
  refine ⟨plain_int _ _, plain_int _ _, ?_⟩
  refine kIte_of (fun _ => ?_) fun _ => ?_
  · walk_at "st"
    refine ⟨by decide, ?_⟩
    have e8 : rngD 0 (Int.toNat 8) = rngD 0 8 := rfl
    rw [e8, rngNat]
    refine compL_some (fun i : Nat => D.int (i : Int)) (fun d => ∃ t, d = shD t ∧ HouseOk 2 8 t) (List.range 8) (fun s hs => ⟨_, fun Q E q => q, fun Q E q => ?_⟩) _ _ fun ds ⟨hds, hok⟩ => ?_
    · walk_at "st"
      refine draw_spec 2 (by omega) (by omega) _ _ ?_
      rintro _ ⟨c2, hc2, rfl⟩
      obtain ⟨m, hm, em⟩ := pick13 c2 hc2
      walk_at "st"
      rw [em]
      walk_at "st"
      refine ⟨by omega, ?_⟩
      refine drawn_house 2 8 m 2 (by omega) (by omega) (by omega) _ _ 7 (fun k Q E q => ?_) _ _ ?_
      · walk_at "st"
        exact holder_spec 2 8 2 (by omega) (by omega) (by omega) _ _ q
      · rintro _ ⟨t, rfl, lt, ft⟩
        walk_at "st"
        rw [sortH_map]
        refine ⟨sortOk_hd t, ?_⟩
        exact q _ ⟨_, rfl, house_sorted (by omega) (by omega) (by omega) ft⟩
    · obtain ⟨h1, rfl, l1, hk1⟩ := houses_list 2 8 ds hok
      have l8 : h1.length = 8 := by rw [l1, hds, List.length_range]
      have k1 : WebIn 2 h1 := webIn_all (by omega) (by omega) (by omega) fun t ht => by rw [l8]; exact hk1 t ht
      walk_at "st"
      refine ⟨.inr (imL_shD _), ?_⟩
      refine draw_spec 8 (by omega) (by omega) _ _ ?_
      rintro _ ⟨at_, hat, rfl⟩
      obtain ⟨s, es⟩ : ∃ s, h1[at_]? = some s := ⟨h1[at_], List.getElem?_eq_getElem (by omega)⟩
      have sk := k1.house (List.mem_of_getElem? es)
      have s15 := sk.2.1
      have s1 := sk.1
      have so := sk.2.2.1
      have sf := sk.2.2.2.1
      rw [l8] at sf
      have ixs := ixB_ln shD h1 at_ es
      walk_at "st"
      rw [ixs]
      walk_at "st"
      refine ⟨im_shD s, ?_⟩
      have sl : sliceB (some (1 : Int)) none (shD s) = some (.tup ((s.drop 1).map hdD)) := by
        rw [List.map_drop]; exact sl_td _ 1
      rw [sl]
      walk_at "st"
      refine holder_spec 2 8 2 (by omega) (by omega) (by omega) _ _ ?_
      rintro _ ⟨h, rfl, hh⟩
      walk_at "st"
      have ea : (s.drop 1).map hdD ++ [hdD h] = (s.drop 1 ++ [h]).map hdD := by rw [List.map_append]; rfl
      rw [ea]
      refine ⟨by rw [List.length_map, List.length_drop, hz]; omega, ?_⟩
      rw [sortH_map]
      refine ⟨sortOk_hd _, ?_⟩
      rw [List.length_map, ixN_nat (by omega)]
      walk_at "st"
      have e9 : (h1.map shD).set at_ (D.tup ((sortH (s.drop 1 ++ [h])).map hdD)) = (h1.set at_ (sortH (s.drop 1 ++ [h]))).map shD := by rw [List.map_set]; rfl
      rw [e9]
      have k2 : WebIn 2 (h1.set at_ (sortH (s.drop 1 ++ [h]))) := by
        refine k1.put ?_
        rw [l8]
        refine house_sorted ?_ ?_ ?_ fun x hx => ?_
        · rw [List.length_append, List.length_drop, List.length_singleton]; omega
        · rw [List.length_append, List.length_drop, List.length_singleton]; omega
        · rw [List.length_append, List.length_drop, List.length_singleton]; omega
        · rcases List.mem_append.mp hx with hx | hx
          · exact sf x (List.mem_of_mem_drop hx)
          · simp at hx; subst hx; exact hh
      have l2 : (h1.set at_ (sortH (s.drop 1 ++ [h]))).length = h1.length := by rw [List.length_set]
      generalize h1.set at_ (sortH (s.drop 1 ++ [h])) = h2 at k2 l2
      refine ⟨.inr (imL_shD _), .inr (imL_shD _), ?_⟩
      have eA : D.tup [D.int 2, D.tup (h1.map shD)] = toldD 2 h1 := rfl
      have eB : D.tup [D.int 2, D.tup (h2.map shD)] = toldD 2 h2 := rfl
      rw [eA, eB]
      walk_at "it"
      refine law_web_spec 2 h1 k1 _ _ ?_
      walk_at "st"
      refine law_web_spec 2 h2 k2 _ _ ?_
      walk_at "st"
      refine unlike_spec 2 h1 h2 k1.toFit k2.toFit l2.symm (by omega) _ _ ?_
      walk_at "st"
      refine law_unlike_spec 2 h1 h2 k1.toFit k2.toFit l2.symm (by omega) _ _ ?_
      walk_at "st"
      refine ⟨pl_due _, pl_due _, ?_⟩
      rw [eq_due]
      walk_at "st"
      exact q _ ⟨_, _, _, _, _, _, _, _, _, _, _, _, _, _, _, rfl⟩
  · walk_at "st"
    exact q _ ⟨_, _, _, _, _, _, _, _, _, _, _, _, _, _, _, rfl⟩
end Prf

namespace Prf
open PySem PySem.Spec PyProof.Rows L2 DL
local macro_rules | `(tactic| walk_at "st") => `(tactic| simp only [o_shl, o_shr, o_band, o_bor, o_inv, o_max2, o_min2, k_isi2, o_rng1, o_rng2, k_rH, kRH_e, o_minL, o_maxL, o_repL, o_repA, o_repS, k_ixG, kIG_e, k_pop, kPop_e, k_dc, kDc_e, o_sortKT, o_sortN, o_sortSet, k_seq, kSeq_n, kSeq_b, kSeq_c, kSeq_r, optK_s, kVar_s, k_var, k_c, k_un, kUn_e, k_bin, kB1_e, kB2_e, k_nil, k_cons, kC1_e, kC2_e, k_app, kApp_e, kBl_e, k_bl, kTr_b, kTr_i, kTr_n, k_tr, k_not, kNot_e, k_and, kAnd_t, kAnd_f, k_or, kOr_t, kOr_f, k_andV, kAndV_t, kAndV_f, k_orV, kOrV_t, kOrV_f, k_notV, kNotV_e, k_if, kIf_t, kIf_f, k_up, kUp_e, k_tup, kTup_e, k_lst, kLst_e, k_next, k_brk, k_cont, k_asg, kAsg_e, k_expr, kExp_e, k_ret, kRet_e, k_retN, kIte_t, kIte_f, k_for, kFor_e, k_comp, kComp_e, k_yes, k_tName, k_tTup, k_tCons, kTC_e, k_tNil, kNx_e, k_asgT, kAT_e, k_par, kP1_e, kP2_e, kSq_e, k_sq, seqB_t, seqB_l, imK_e, kSqr_e, k_sqr, enK_e, kEn_e, k_en, kR1_e, k_r1, k_r2, kR21_e, kR22_e, k_zip, kZ1_e, kZ2_l, kZ2_t, k_chain, kCh1_e, kCh2_e, kCh2_t, kCh2_f, kCh3_e, k_slice, kSl1_e, kSl2_e, kSl3_e, k_noPart, k_part, kPart_e, k_run, kRun_r, kRun_n, k_runM, kRunM_n, kLA_s, k_append, kApd1_e, kApd2_e, k_extend, kExt1_e, kExt2_e, k_setIx, kSix0_e, kSix1_e, kSix2_e, kSix3_e, kDA_s, k_put, kPut0_e, kPut1_e, kPut2_i, kPut2_s, k_aug, kAug0_s, kAug1_e, kAug2_e, k_len, lenB_t, lenB_l, lenB_d, k_ix, k_ixr, k_fld, kB_e, kBn_e, k_in, k_nin, k_eq, k_ne, k_isi, k_is, k_isn, nonB, o_add, o_addT, o_addL, o_sub, o_mul, o_div, o_mod, o_pow, o_lt, o_le, o_gt, o_ge, o_int, o_intB, o_abs, o_neg, o_tup, o_tupT, o_tupR, o_tupTR, o_lst, o_lstR, o_lstT, o_lstTR, o_lstD, o_sort, o_sortR, o_sortT, o_sortTR, o_sortD, o_ord, o_sortIt, upL_v, upOk_v, List.getElem?_cons_zero, List.getElem?_cons_succ, List.set_cons_zero, List.set_cons_succ, List.map_cons, List.map_nil, List.cons_append, List.nil_append, List.length_cons, List.length_nil, List.replicate, wipeD, kLoop_n, kLoop_c, kLoop_b, kLoop_r, kBody_e, k_make, kMake_e, kOA_s, k_setFld, kSF0_e, kSF1_e, k_meth, kMe0_e, kMe1_e, kMe2_e, k_get, kGet0_e, kGet1_e, kGet2_i, kGet2_s, k_rep, k_raise, k_try, kTry_e, handW_n, k_raise1, kRaise1_e, k_tryA, kTryA_e, handAW_n, k_zip2, kZw1_e, o_isb, k_callV, kCV0_e, kCV1_e, k_call0, ne_eq, true_and, and_true, Bool.not_true, Bool.not_false, Int.toNat_natCast, decide_true, decide_false])
local macro_rules | `(tactic| walk_at "it") => `(tactic| (rw [k_ite]; walk_at "st"))
theorem web_rep (n k m : Nat) (n1 : 1 ≤ n) (n6 : n ≤ 6) (k12 : k ≤ 12) (m15 : m ≤ 15) (odd : m % 2 = 1) : WebIn n (List.replicate k (List.replicate m f00)) := by
  refine webIn_all n1 n6 (by rw [List.length_replicate]; exact k12) fun s hs => ?_
  have es := List.eq_of_mem_replicate hs
  subst es
  refine ⟨by rw [List.length_replicate]; omega, by rw [List.length_replicate]; exact m15, by rw [List.length_replicate]; exact odd, fun x hx => ?_, fun i a b ha hb => ?_⟩
  · rw [List.eq_of_mem_replicate hx]
    exact n1
  · rw [List.eq_of_mem_replicate (List.mem_of_getElem? ha), List.eq_of_mem_replicate (List.mem_of_getElem? hb), hd_le]
    decide
theorem init1 (n k : Nat) (n1 : 1 ≤ n) (n6 : n ≤ 6) (k12 : k ≤ 12) : Pure (m_Web___init__ [.obj "Web" [] [], .int (n : Nat), hsD (one9 k)]) (wd n k) := init_spec n (one9 k) (web_rep n k 1 n1 n6 k12 (by omega) rfl)
theorem law_spec : ∀ Q : Fl → Prop, Q (.ret (.bl true)) → w_law (none :: some .pool :: List.replicate 15 none) Q noX := by
  intro Q q
  have hz : sizeLine = 16777216 := sizeLine_eq
  unfold w_law
  walk_at "st"
  refine ⟨by decide, ?_⟩
  have e2 : rngD 0 (Int.toNat 2) = rngD 0 2 := rfl
  rw [e2]
  refine forL_range (fun i ρ => ∃ y2 y3 y4 y5 y6 y7 y8 y9 y10 y11 y12 y13 y14 y15 y16, ρ = [none, some .pool, y2, y3, y4, y5, y6, y7, y8, y9, y10, y11, y12, y13, y14, y15, y16]) _ (fun ρ hI => ?_) (fun i ρ R hi hI hR => ?_) _ ⟨_, _, _, _, _, _, _, _, _, _, _, _, _, _, _, rfl⟩
  · obtain ⟨y2, y3, y4, y5, y6, y7, y8, y9, y10, y11, y12, y13, y14, y15, y16, rfl⟩ := hI
    rw [kSeq_n, k_seq]
    refine Goes.kseq (great_spec _ _ _ _ _ _ _ _ _ _ _ _ _ _ _) ?_
    rintro _ ⟨y2, y3, y4, y5, y6, y7, y8, y9, y10, y11, y12, y13, y14, y15, y16, rfl⟩
    walk_at "st"
    have w1 : D.tup [D.tup [D.tup [D.str "f", D.int 0]]] = hsD (one9 1) := rfl
    have w0 : D.tup [] = hsD (one9 0) := rfl
    rw [w1]
    refine init1 1 1 (by omega) (by omega) (by omega) _ _ ?_
    walk_at "st"
    rw [w1]
    refine init1 2 1 (by omega) (by omega) (by omega) _ _ ?_
    walk_at "st"
    rw [w1]
    refine init1 1 1 (by omega) (by omega) (by omega) _ _ ?_
    walk_at "st"
    rw [w0]
    refine init1 1 0 (by omega) (by omega) (by omega) _ _ ?_
    walk_at "st"
    have w9 : D.tup (List.replicate (Int.toNat 9) [D.tup [D.tup [D.str "f", D.int 0]]]).flatten = hsD (one9 9) := rfl
    have w8 : D.tup (List.replicate (Int.toNat 8) [D.tup [D.tup [D.str "f", D.int 0]]]).flatten = hsD (one9 8) := rfl
    rw [w9]
    refine ⟨⟨by decide, by decide, by decide⟩, ?_⟩
    refine init1 1 9 (by omega) (by omega) (by omega) _ _ ?_
    walk_at "st"
    rw [w9]
    refine ⟨⟨by decide, by decide, by decide⟩, ?_⟩
    refine init1 1 9 (by omega) (by omega) (by omega) _ _ ?_
    walk_at "st"
    rw [w9]
    refine ⟨⟨by decide, by decide, by decide⟩, ?_⟩
    refine init1 1 9 (by omega) (by omega) (by omega) _ _ ?_
    walk_at "st"
    rw [w8]
    refine ⟨⟨by decide, by decide, by decide⟩, ?_⟩
    refine init1 1 8 (by omega) (by omega) (by omega) _ _ ?_
    walk_at "st"
    refine ⟨by decide, ?_⟩
    rw [e2]
    refine forL_range (fun i ρ => ∃ y6 y16, ρ = [none, some .pool, y2, y3, y4, y5, y6, y7, y8, y9, y10, y11, y12, y13, some (.tup [.tup [.str "f", .int 0]]), some (.lst [.tup [wd 1 1, wd 2 1], .tup [wd 1 1, wd 1 0], .tup [wd 1 9, wd 1 9], .tup [wd 1 9, wd 1 8]]), y16]) _ (fun ρ hI => ?_) (fun i ρ R hi hI hR => ?_) _ ⟨_, _, rfl⟩
    · obtain ⟨y6, y16, rfl⟩ := hI
      walk_at "st"
      rw [w8]
      refine ⟨⟨by decide, by decide, by decide⟩, ?_⟩
      refine init1 1 8 (by omega) (by omega) (by omega) _ _ ?_
      walk_at "st"
      refine ⟨⟨by decide, by decide, by decide⟩, ?_⟩
      refine ⟨⟨by decide, by decide, by decide⟩, ?_⟩
      have w83 : D.tup (List.replicate (Int.toNat 8) [D.tup (List.replicate (Int.toNat 3) [D.tup [D.str "f", D.int 0]]).flatten]).flatten = hsD (List.replicate 8 [f00, f00, f00]) := rfl
      rw [w83]
      refine init_spec 1 (List.replicate 8 [f00, f00, f00]) (web_rep 1 8 3 (by omega) (by omega) (by omega) (by omega) rfl) _ _ ?_
      walk_at "st"
      refine same_spec 1 (one9 8) (List.replicate 8 [f00, f00, f00]) (web_rep 1 8 1 (by omega) (by omega) (by omega) (by omega) rfl).toFit (web_rep 1 8 3 (by omega) (by omega) (by omega) (by omega) rfl).toFit rfl (by decide) _ _ ?_
      rw [show (one9 8).length = 8 from rfl, due8]
      walk_at "st"
      exact q
    · obtain ⟨y6, y16, rfl⟩ := hI
      walk_at "st"
      walk_at "it"
      refine compL_mapF (Prod.fst : D × D → D) Prod.snd [(.tup [wd 1 1, wd 2 1], .str "match"), (.tup [wd 1 1, wd 1 0], .str "match"), (.tup [wd 1 9, wd 1 9], .int 8), (.tup [wd 1 9, wd 1 8], .str "match")] (fun x hx => ⟨_, fun Q E q => q, fun Q E q => ?_⟩) _ _ ?_
      · simp only [List.mem_cons, List.not_mem_nil, or_false] at hx
        have i0 : ∀ a b : D, ixB (.tup [a, b]) (.int 0) = some a := fun _ _ => rfl
        have i1 : ∀ a b : D, ixB (.tup [a, b]) (.int 1) = some b := fun _ _ => rfl
        rcases hx with rfl | rfl | rfl | rfl
        · walk_at "st"
          rw [i0]
          walk_at "st"
          rw [i1]
          walk_at "st"
          exact word1 i hi _ _ q
        · walk_at "st"
          rw [i0]
          walk_at "st"
          rw [i1]
          walk_at "st"
          exact word2 i hi _ _ q
        · walk_at "st"
          rw [i0]
          walk_at "st"
          rw [i1]
          walk_at "st"
          exact word3 i hi _ _ q
        · walk_at "st"
          rw [i0]
          walk_at "st"
          rw [i1]
          walk_at "st"
          exact word4 i hi _ _ q
      · walk_at "st"
        refine ⟨by decide +kernel, by decide +kernel, ?_⟩
        have eq : eqD (.lst [.str "match", .str "match", .int 8, .str "match"]) (.lst [.str "match", .str "match", .int 8, .str "match"]) = true := by decide +kernel
        rw [eq]
        walk_at "st"
        exact hR _ ⟨_, _, rfl⟩
  · obtain ⟨y2, y3, y4, y5, y6, y7, y8, y9, y10, y11, y12, y13, y14, y15, y16, rfl⟩ := hI
    walk_at "st"
    refine told_spec2 4 4 (by omega) (by omega) (by omega) _ _ ?_
    rintro _ ⟨n, h1, rfl, k1, n4, l4⟩
    walk_at "st"
    rw [ix_told1]
    have lt : ∀ k, lstOfW k (hsD h1) = lstOfW k (.tup (h1.map shD)) := fun _ => rfl
    walk_at "st"
    rw [lt]
    walk_at "st"
    refine Goes.kseq (bend_spec n h1 k1 _ _ _ _ _ _ _ _ _ _ _ _ _) ?_
    rintro _ ⟨h2, y5, y6, y7, y8, k2, l2, rfl⟩
    refine ask_spec n h1 h2 k1 k2 l2 (by omega) _ _ _ _ _ _ _ _ _ _ _ _ _ _ _ ?_
    rintro _ ⟨y3, y4, y5, y6, y7, y8, y9, y10, y11, y12, y13, y14, y15, y16, rfl⟩
    walk_at "st"
    exact hR _ ⟨_, _, _, _, _, _, _, _, _, _, _, _, _, _, _, rfl⟩
end Prf

namespace Prf
open PySem PySem.Spec PyProof.Rows L2 DL
theorem sb_TooMany : DL.SupTxt "too many" "most" "most" (defBody s_TooMany___init__) := ⟨_, _, _, _, _, _, _, _, _, _, _, rfl, fun _ => rfl, ⟨_, fun _ => rfl⟩⟩
theorem sb_BadWeb : DL.SupTxt "no web" "part" "part" (defBody s_BadWeb___init__) := ⟨_, _, _, _, _, _, _, _, _, _, _, rfl, fun _ => rfl, ⟨_, fun _ => rfl⟩⟩
end Prf
namespace Prf
open PySem PySem.Spec PyProof.Rows L2 DL
theorem facts {P : Program} {w : World} {K : PySem.W.Frag} {h : Heap} {mg : Str → Option Value} {f : Addr} (X : K.In h) (G : h.Ns mainGlobals mg) (hfa : mg ("law" : Str) = some (.ref f)) (c : He.SaysD fa fn K) (hex : exK K = true) (hsv : sxs.map (supObs K) = svs) (hP : P.main.file = R.prog.main.file) (hPs : (P.main.scope.names.lookup ("super" : Str)).isSome = false) :
    ∃ fd : FuncData, (∀ (s : Shared) (v : Value), BindsTo s fd ⟨[v], []⟩ [("_law_script", v)]) ∧ ∀ base : Heap, K.In base → base.Ns mainGlobals mg → FnOk P w K mg base (L2.CX P w) 8 f fd ["_law_script"] (spLaw K) := by
  obtain ⟨hx_BadWeb, hex⟩ := He.ba hex
  have hx_TooMany := hex
  have hs0 := hsv
  obtain ⟨hv_BadWeb, hs0⟩ := List.cons.inj hs0
  have E_BadWeb : ∀ base : Heap, ExcX P w K mg base "BadWeb" "part" ∧ FldX K mg "BadWeb" "part" := fun base => excx_of (by rw [hP]; exact hx_BadWeb) hv_BadWeb hPs (He.glo_ok X G (c.fact 58 (f := .glo "BadWeb") rfl)) (He.free_ok X G (c.fact 69 (f := .free "super") rfl)) sb_BadWeb (NdefX.nscope_by (by decide +kernel)) (by decide +kernel) (by decide) (by decide) (by decide +kernel) (fun _ _ _ _ _ us hl => match us, hl with | [_, _], _ => rfl)
  obtain ⟨hv_TooMany, hs0⟩ := List.cons.inj hs0
  have E_TooMany : ∀ base : Heap, ExcX P w K mg base "TooMany" "most" ∧ FldX K mg "TooMany" "most" := fun base => excx_of (by rw [hP]; exact hx_TooMany) hv_TooMany hPs (He.glo_ok X G (c.fact 61 (f := .glo "TooMany") rfl)) (He.free_ok X G (c.fact 69 (f := .free "super") rfl)) sb_TooMany (NdefX.nscope_by (by decide +kernel)) (by decide +kernel) (by decide) (by decide) (by decide +kernel) (fun _ _ _ _ _ us hl => match us, hl with | [_, _], _ => rfl)
  have T : Txt K mg := by
    exact ⟨(He.free_ok X G (c.fact 27 (f := .free "abs") rfl)),
      (He.free_ok X G (c.fact 28 (f := .free "all") rfl)),
      (He.free_ok X G (c.fact 29 (f := .free "bool") rfl)),
      (He.free_ok X G (c.fact 30 (f := .free "enumerate") rfl)),
      (He.free_ok X G (c.fact 31 (f := .free "int") rfl)),
      (He.free_ok X G (c.fact 32 (f := .free "isinstance") rfl)),
      (He.free_ok X G (c.fact 33 (f := .free "len") rfl)),
      (He.free_ok X G (c.fact 34 (f := .free "list") rfl)),
      (He.free_ok X G (c.fact 35 (f := .free "range") rfl)),
      (He.free_ok X G (c.fact 36 (f := .free "sorted") rfl)),
      (He.free_ok X G (c.fact 37 (f := .free "str") rfl)),
      (He.free_ok X G (c.fact 38 (f := .free "sum") rfl)),
      (He.free_ok X G (c.fact 39 (f := .free "tuple") rfl)),
      (He.free_ok X G (c.fact 40 (f := .free "zip") rfl)),
      (He.int_ok X G (c.fact 41 (f := .int "MOST_FOLK" 6) rfl)),
      (He.int_ok X G (c.fact 42 (f := .int "MOST_HOUSES_likeness" 8) rfl)),
      (He.int_ok X G (c.fact 43 (f := .int "MOST_HOUSES_webs" 12) rfl)),
      (He.int_ok X G (c.fact 44 (f := .int "MOST_SHARES" 15) rfl)),
      (List.forall_mem_cons.mpr ⟨⟨fun _ e => DL.fld_ok (He.glo_ok X G (c.fact 45 (f := .glo "Web") rfl)) (He.cls_ok (c.fact 46 (f := .cls "Web") rfl)) (He.noat_ok (c.fact 47 (f := .noat "Web" "folk") rfl)) e⟩, List.forall_mem_cons.mpr ⟨⟨fun _ e => DL.fld_no (He.free_ok X G (c.fact 48 (f := .free "RawWeb") rfl)) e⟩, List.forall_mem_nil _⟩⟩),
      (List.forall_mem_cons.mpr ⟨⟨fun _ e => DL.fld_ok (He.glo_ok X G (c.fact 45 (f := .glo "Web") rfl)) (He.cls_ok (c.fact 46 (f := .cls "Web") rfl)) (He.noat_ok (c.fact 49 (f := .noat "Web" "houses") rfl)) e⟩, List.forall_mem_cons.mpr ⟨⟨fun _ e => DL.fld_no (He.free_ok X G (c.fact 48 (f := .free "RawWeb") rfl)) e⟩, List.forall_mem_nil _⟩⟩),
      (List.forall_mem_cons.mpr ⟨⟨fun _ e => DL.fld_ok (He.glo_ok X G (c.fact 45 (f := .glo "Web") rfl)) (He.cls_ok (c.fact 46 (f := .cls "Web") rfl)) (He.noat_ok (c.fact 50 (f := .noat "Web" "kept_folk") rfl)) e⟩, List.forall_mem_cons.mpr ⟨⟨fun _ e => DL.fld_no (He.free_ok X G (c.fact 48 (f := .free "RawWeb") rfl)) e⟩, List.forall_mem_nil _⟩⟩),
      (List.forall_mem_cons.mpr ⟨⟨fun _ e => DL.fld_ok (He.glo_ok X G (c.fact 45 (f := .glo "Web") rfl)) (He.cls_ok (c.fact 46 (f := .cls "Web") rfl)) (He.noat_ok (c.fact 51 (f := .noat "Web" "kept_half") rfl)) e⟩, List.forall_mem_cons.mpr ⟨⟨fun _ e => DL.fld_no (He.free_ok X G (c.fact 48 (f := .free "RawWeb") rfl)) e⟩, List.forall_mem_nil _⟩⟩),
      (List.forall_mem_cons.mpr ⟨⟨fun _ e => DL.fld_ok (He.glo_ok X G (c.fact 45 (f := .glo "Web") rfl)) (He.cls_ok (c.fact 46 (f := .cls "Web") rfl)) (He.noat_ok (c.fact 52 (f := .noat "Web" "kept_houses") rfl)) e⟩, List.forall_mem_cons.mpr ⟨⟨fun _ e => DL.fld_no (He.free_ok X G (c.fact 48 (f := .free "RawWeb") rfl)) e⟩, List.forall_mem_nil _⟩⟩),
      (E_TooMany h).2,
      ⟨⟨_, (He.glo_ok X G (c.fact 55 (f := .glo "NoMatch") rfl)), He.exc_ok (c.fact 56 (f := .exc "NoMatch") rfl)⟩⟩,
      ⟨⟨_, (He.glo_ok X G (c.fact 57 (f := .glo "HouseError") rfl)), List.forall_mem_cons.mpr ⟨⟨_, (He.glo_ok X G (c.fact 58 (f := .glo "BadWeb") rfl)), (He.exm_ok (c.fact 59 (f := .exm "BadWeb" "HouseError" true) rfl)).trans (congrArg some (by decide +kernel))⟩, List.forall_mem_cons.mpr ⟨⟨_, (He.glo_ok X G (c.fact 55 (f := .glo "NoMatch") rfl)), (He.exm_ok (c.fact 60 (f := .exm "NoMatch" "HouseError" true) rfl)).trans (congrArg some (by decide +kernel))⟩, List.forall_mem_cons.mpr ⟨⟨_, (He.glo_ok X G (c.fact 61 (f := .glo "TooMany") rfl)), (He.exm_ok (c.fact 62 (f := .exm "TooMany" "HouseError" true) rfl)).trans (congrArg some (by decide +kernel))⟩, List.forall_mem_nil _⟩⟩⟩⟩⟩,
      ⟨⟨_, (He.glo_ok X G (c.fact 55 (f := .glo "NoMatch") rfl)), List.forall_mem_cons.mpr ⟨⟨_, (He.glo_ok X G (c.fact 58 (f := .glo "BadWeb") rfl)), (He.exm_ok (c.fact 63 (f := .exm "BadWeb" "NoMatch" false) rfl)).trans (congrArg some (by decide +kernel))⟩, List.forall_mem_cons.mpr ⟨⟨_, (He.glo_ok X G (c.fact 55 (f := .glo "NoMatch") rfl)), (He.exm_ok (c.fact 64 (f := .exm "NoMatch" "NoMatch" true) rfl)).trans (congrArg some (by decide +kernel))⟩, List.forall_mem_cons.mpr ⟨⟨_, (He.glo_ok X G (c.fact 61 (f := .glo "TooMany") rfl)), (He.exm_ok (c.fact 65 (f := .exm "TooMany" "NoMatch" false) rfl)).trans (congrArg some (by decide +kernel))⟩, List.forall_mem_nil _⟩⟩⟩⟩⟩,
      ⟨⟨_, (He.glo_ok X G (c.fact 61 (f := .glo "TooMany") rfl)), List.forall_mem_cons.mpr ⟨⟨_, (He.glo_ok X G (c.fact 58 (f := .glo "BadWeb") rfl)), (He.exm_ok (c.fact 66 (f := .exm "BadWeb" "TooMany" false) rfl)).trans (congrArg some (by decide +kernel))⟩, List.forall_mem_cons.mpr ⟨⟨_, (He.glo_ok X G (c.fact 55 (f := .glo "NoMatch") rfl)), (He.exm_ok (c.fact 67 (f := .exm "NoMatch" "TooMany" false) rfl)).trans (congrArg some (by decide +kernel))⟩, List.forall_mem_cons.mpr ⟨⟨_, (He.glo_ok X G (c.fact 61 (f := .glo "TooMany") rfl)), (He.exm_ok (c.fact 68 (f := .exm "TooMany" "TooMany" true) rfl)).trans (congrArg some (by decide +kernel))⟩, List.forall_mem_nil _⟩⟩⟩⟩⟩⟩
  obtain ⟨fd_is_integer, U_is_integer⟩ := c.def_ 0 (d := f_is_integer) rfl
  have D_is_integer : DefOk K mg "is_integer" s_is_integer := ⟨_, _, U_is_integer, (He.glo_ok X G (c.fact 0 (f := .glo "is_integer") rfl))⟩
  obtain ⟨fd_is_within, U_is_within⟩ := c.def_ 1 (d := f_is_within) rfl
  have D_is_within : DefOk K mg "is_within" s_is_within := ⟨_, _, U_is_within, (He.glo_ok X G (c.fact 1 (f := .glo "is_within") rfl))⟩
  obtain ⟨fd_is_pair, U_is_pair⟩ := c.def_ 2 (d := f_is_pair) rfl
  have D_is_pair : DefOk K mg "is_pair" s_is_pair := ⟨_, _, U_is_pair, (He.glo_ok X G (c.fact 2 (f := .glo "is_pair") rfl))⟩
  obtain ⟨fd_are_rising, U_are_rising⟩ := c.def_ 3 (d := f_are_rising) rfl
  have D_are_rising : DefOk K mg "are_rising" s_are_rising := ⟨_, _, U_are_rising, (He.glo_ok X G (c.fact 3 (f := .glo "are_rising") rfl))⟩
  obtain ⟨fd_check_many, U_check_many⟩ := c.def_ 4 (d := f_check_many) rfl
  have D_check_many : DefOk K mg "check_many" s_check_many := ⟨_, _, U_check_many, (He.glo_ok X G (c.fact 4 (f := .glo "check_many") rfl))⟩
  obtain ⟨fd_is_holder_of, U_is_holder_of⟩ := c.def_ 5 (d := f_is_holder_of) rfl
  have D_is_holder_of : DefOk K mg "is_holder_of" s_is_holder_of := ⟨_, _, U_is_holder_of, (He.glo_ok X G (c.fact 5 (f := .glo "is_holder_of") rfl))⟩
  obtain ⟨fd_are_shares, U_are_shares⟩ := c.def_ 6 (d := f_are_shares) rfl
  have D_are_shares : DefOk K mg "are_shares" s_are_shares := ⟨_, _, U_are_shares, (He.glo_ok X G (c.fact 6 (f := .glo "are_shares") rfl))⟩
  obtain ⟨fd_check_match, U_check_match⟩ := c.def_ 7 (d := f_check_match) rfl
  have D_check_match : DefOk K mg "check_match" s_check_match := ⟨_, _, U_check_match, (He.glo_ok X G (c.fact 7 (f := .glo "check_match") rfl))⟩
  obtain ⟨fd_says_there, U_says_there⟩ := c.def_ 8 (d := f_says_there) rfl
  have D_says_there : DefOk K mg "says_there" s_says_there := ⟨_, _, U_says_there, (He.glo_ok X G (c.fact 8 (f := .glo "says_there") rfl))⟩
  obtain ⟨fd_changing_of, U_changing_of⟩ := c.def_ 9 (d := f_changing_of) rfl
  have D_changing_of : DefOk K mg "changing_of" s_changing_of := ⟨_, _, U_changing_of, (He.glo_ok X G (c.fact 9 (f := .glo "changing_of") rfl))⟩
  obtain ⟨fd_is_at_rest, U_is_at_rest⟩ := c.def_ 10 (d := f_is_at_rest) rfl
  have D_is_at_rest : DefOk K mg "is_at_rest" s_is_at_rest := ⟨_, _, U_is_at_rest, (He.glo_ok X G (c.fact 10 (f := .glo "is_at_rest") rfl))⟩
  obtain ⟨fd_all_flags, U_all_flags⟩ := c.def_ 11 (d := f_all_flags) rfl
  have D_all_flags : DefOk K mg "all_flags" s_all_flags := ⟨_, _, U_all_flags, (He.glo_ok X G (c.fact 11 (f := .glo "all_flags") rfl))⟩
  obtain ⟨fd_first_unlike_stand, U_first_unlike_stand⟩ := c.def_ 12 (d := f_first_unlike_stand) rfl
  have D_first_unlike_stand : DefOk K mg "first_unlike_stand" s_first_unlike_stand := ⟨_, _, U_first_unlike_stand, (He.glo_ok X G (c.fact 12 (f := .glo "first_unlike_stand") rfl))⟩
  obtain ⟨fd_check_stands, U_check_stands⟩ := c.def_ 13 (d := f_check_stands) rfl
  have D_check_stands : DefOk K mg "check_stands" s_check_stands := ⟨_, _, U_check_stands, (He.glo_ok X G (c.fact 13 (f := .glo "check_stands") rfl))⟩
  obtain ⟨fd_unlike_stand, U_unlike_stand⟩ := c.def_ 14 (d := f_unlike_stand) rfl
  have D_unlike_stand : DefOk K mg "unlike_stand" s_unlike_stand := ⟨_, _, U_unlike_stand, (He.glo_ok X G (c.fact 14 (f := .glo "unlike_stand") rfl))⟩
  obtain ⟨fd_same_stands, U_same_stands⟩ := c.def_ 15 (d := f_same_stands) rfl
  have D_same_stands : DefOk K mg "same_stands" s_same_stands := ⟨_, _, U_same_stands, (He.glo_ok X G (c.fact 15 (f := .glo "same_stands") rfl))⟩
  obtain ⟨fd__law_pool, U__law_pool⟩ := c.def_ 16 (d := f__law_pool) rfl
  have D__law_pool : DefOk K mg "_law_pool" s__law_pool := ⟨_, _, U__law_pool, (He.glo_ok X G (c.fact 16 (f := .glo "_law_pool") rfl))⟩
  obtain ⟨fd__law_holder, U__law_holder⟩ := c.def_ 17 (d := f__law_holder) rfl
  have D__law_holder : DefOk K mg "_law_holder" s__law_holder := ⟨_, _, U__law_holder, (He.glo_ok X G (c.fact 17 (f := .glo "_law_holder") rfl))⟩
  obtain ⟨fd__law_told, U__law_told⟩ := c.def_ 18 (d := f__law_told) rfl
  have D__law_told : DefOk K mg "_law_told" s__law_told := ⟨_, _, U__law_told, (He.glo_ok X G (c.fact 18 (f := .glo "_law_told") rfl))⟩
  obtain ⟨fd_Web_keep, U_Web_keep⟩ := c.def_ 19 (d := f_Web_keep) rfl
  obtain ⟨fd_Web___init__, U_Web___init__⟩ := c.def_ 20 (d := f_Web___init__) rfl
  obtain ⟨fd__law_web, U__law_web⟩ := c.def_ 21 (d := f__law_web) rfl
  have D__law_web : DefOk K mg "_law_web" s__law_web := ⟨_, _, U__law_web, (He.glo_ok X G (c.fact 19 (f := .glo "_law_web") rfl))⟩
  obtain ⟨fd__law_says, U__law_says⟩ := c.def_ 22 (d := f__law_says) rfl
  have D__law_says : DefOk K mg "_law_says" s__law_says := ⟨_, _, U__law_says, (He.glo_ok X G (c.fact 20 (f := .glo "_law_says") rfl))⟩
  obtain ⟨fd__law_boards, U__law_boards⟩ := c.def_ 23 (d := f__law_boards) rfl
  have D__law_boards : DefOk K mg "_law_boards" s__law_boards := ⟨_, _, U__law_boards, (He.glo_ok X G (c.fact 21 (f := .glo "_law_boards") rfl))⟩
  obtain ⟨fd__law_rests, U__law_rests⟩ := c.def_ 24 (d := f__law_rests) rfl
  have D__law_rests : DefOk K mg "_law_rests" s__law_rests := ⟨_, _, U__law_rests, (He.glo_ok X G (c.fact 22 (f := .glo "_law_rests") rfl))⟩
  obtain ⟨fd__law_unlike, U__law_unlike⟩ := c.def_ 25 (d := f__law_unlike) rfl
  have D__law_unlike : DefOk K mg "_law_unlike" s__law_unlike := ⟨_, _, U__law_unlike, (He.glo_ok X G (c.fact 23 (f := .glo "_law_unlike") rfl))⟩
  obtain ⟨fd__law_word, U__law_word⟩ := c.def_ 26 (d := f__law_word) rfl
  have D__law_word : DefOk K mg "_law_word" s__law_word := ⟨_, _, U__law_word, (He.glo_ok X G (c.fact 24 (f := .glo "_law_word") rfl))⟩
  obtain ⟨fd__law_draw, U__law_draw⟩ := c.def_ 27 (d := f__law_draw) rfl
  have D__law_draw : DefOk K mg "_law_draw" s__law_draw := ⟨_, _, U__law_draw, (He.glo_ok X G (c.fact 25 (f := .glo "_law_draw") rfl))⟩
  obtain ⟨fd_law, U_law⟩ := c.def_ 28 (d := f_law) rfl
  have e := hfa.symm.trans (He.glo_ok X G (c.fact 26 (f := .glo "law") rfl))
  cases e
  have b := FunD.bindsA (ps := ["_law_script"]) U_law fun _ _ _ _ _ _ us hl => match us, hl with | [_], _ => rfl
  refine ⟨fd_law, fun s v => b s [v] rfl, fun base _ _ => ?_⟩
  have F__law_draw := d__law_draw (P := P) (w := w) (base := base) T D__law_draw
  have F_is_integer := d_is_integer (P := P) (w := w) (base := base) T D_is_integer
  have F_is_within := d_is_within (P := P) (w := w) (base := base) T D_is_within F_is_integer
  have F_is_pair := d_is_pair (P := P) (w := w) (base := base) T D_is_pair
  have F_are_rising := d_are_rising (P := P) (w := w) (base := base) T D_are_rising
  have F_check_many := d_check_many (P := P) (w := w) (base := base) T D_check_many (E_TooMany base).1
  have F_is_holder_of := d_is_holder_of (P := P) (w := w) (base := base) T D_is_holder_of F_is_pair F_is_within
  have F_are_shares := d_are_shares (P := P) (w := w) (base := base) T D_are_shares F_are_rising F_is_holder_of
  have F_check_match := d_check_match (P := P) (w := w) (base := base) T D_check_match
  have F_says_there := d_says_there (P := P) (w := w) (base := base) T D_says_there
  have F_changing_of := d_changing_of (P := P) (w := w) (base := base) T D_changing_of F_says_there
  have F_is_at_rest := d_is_at_rest (P := P) (w := w) (base := base) T D_is_at_rest F_changing_of
  have F_all_flags := d_all_flags (P := P) (w := w) (base := base) T D_all_flags
  have F_first_unlike_stand := d_first_unlike_stand (P := P) (w := w) (base := base) T D_first_unlike_stand F_all_flags F_is_at_rest
  have F_check_stands := d_check_stands (P := P) (w := w) (base := base) T D_check_stands F_check_many F_check_match
  have F_unlike_stand := d_unlike_stand (P := P) (w := w) (base := base) T D_unlike_stand F_check_stands F_first_unlike_stand
  have F_same_stands := d_same_stands (P := P) (w := w) (base := base) T D_same_stands F_check_stands F_first_unlike_stand
  have F__law_pool := d__law_pool (P := P) (w := w) (base := base) T D__law_pool
  have F__law_holder := d__law_holder (P := P) (w := w) (base := base) T D__law_holder F__law_draw
  have F__law_told := d__law_told (P := P) (w := w) (base := base) T D__law_told F__law_draw F__law_holder
  have F_Web_keep := d_Web_keep (P := P) (w := w) (base := base) T U_Web_keep
  have F_Web___init__ := d_Web___init__ (P := P) (w := w) (base := base) T U_Web___init__ F_Web_keep F_are_shares F_is_within (E_BadWeb base).1 (List.forall_mem_cons.mpr ⟨⟨_, (He.glo_ok X G (c.fact 45 (f := .glo "Web") rfl)), He.cls_ok (c.fact 46 (f := .cls "Web") rfl), He.meth_ok (c.fact 54 (f := .meth "Web" "keep") rfl)⟩, List.forall_mem_nil _⟩)
  have F__law_web := d__law_web (P := P) (w := w) (base := base) T D__law_web F_Web___init__ ⟨_, (He.glo_ok X G (c.fact 45 (f := .glo "Web") rfl)), He.mkr_ok (c.fact 53 (f := .mkr "Web") rfl)⟩
  have F__law_says := d__law_says (P := P) (w := w) (base := base) T D__law_says
  have F__law_boards := d__law_boards (P := P) (w := w) (base := base) T D__law_boards
  have F__law_rests := d__law_rests (P := P) (w := w) (base := base) T D__law_rests F__law_says
  have F__law_unlike := d__law_unlike (P := P) (w := w) (base := base) T D__law_unlike F__law_boards F__law_rests
  have F__law_word := d__law_word (P := P) (w := w) (base := base) T D__law_word F_same_stands F_unlike_stand
  exact d_law T U_law F_Web___init__ F__law_draw F__law_holder F__law_pool F__law_told F__law_unlike F__law_web F__law_word F_same_stands F_unlike_stand ⟨_, (He.glo_ok X G (c.fact 45 (f := .glo "Web") rfl)), He.mkr_ok (c.fact 53 (f := .mkr "Web") rfl)⟩ w_pool_spec law_spec
end Prf
open PySem PySem.W PySem.Calls PyProof.Rows
set_option maxRecDepth 100000 in
set_option maxHeartbeats 0 in
theorem PySem.Challenge.cw_roundowned_k76_whole_stands_compared_holds : PySem.Challenge.rw_roundowned_k76_whole_stands_compared.Holds := by
  w_on; o_law
  refine HandSHeadRun.head_any (r := OpenLaw.row PySem.Challenge.rw_roundowned_k76_whole_stands_compared) (q := view (OpenLaw.row PySem.Challenge.rw_roundowned_k76_whole_stands_compared).prog [42]) (H := Prf.hk) (ob := Prf.ob) (M := 6000) (loose := Prf.nms) (d := HandSHeadRun.topDef (OpenLaw.row PySem.Challenge.rw_roundowned_k76_whole_stands_compared).prog 42) (kwd := []) Prf.ob_eq
    (by kernel_rfl) (fun s => by kernel_rfl) Prf.run (by kernel_rfl) (by kernel_rfl) (by kernel_rfl) (by rfl) (by first | assumption | decide +kernel) (by decide +kernel) ⟨rfl, rfl, rfl, rfl, rfl, by decide +kernel⟩ ?hw ?hc
  case hw => w_witness2
  case hc =>
    refine DL.walk_ofW (l := PySem.Challenge.rw_roundowned_k76_whole_stands_compared) (n := 63) (k := 8) (x := "_law_script") (CX := fun w => L2.CX (PySem.Challenge.rw_roundowned_k76_whole_stands_compared).prog w) rfl (by decide) (by kernel_rfl) ⟨rfl, by decide, by decide⟩ ?F (fun _ _ _ _ _ h => DL.cx_no h)
    case F =>
      intro w mg fa h Y G hmg0
      obtain ⟨K, KX, c⟩ := Y
      have hmg : mg ("law" : PySem.Str) = some (.ref fa) := by
        have e : (HandSHeadRun.topDef (OpenLaw.row PySem.Challenge.rw_roundowned_k76_whole_stands_compared).prog 42).name = ("law" : PySem.Str) := by kernel_rfl
        rw [← e]
        exact hmg0
      obtain ⟨fd, hb, hF⟩ := Prf.facts (P := (PySem.Challenge.rw_roundowned_k76_whole_stands_compared).prog) (w := w) KX G hmg c.t c.more c.sup rfl (by kernel_rfl)
      exact ⟨K, fd, DL.spLaw K, KX, hb, fun H a ns hl _ hS => ⟨a, ns, rfl, hS, hl, fun _ => rfl⟩, hF⟩

