import PyProof.Rows.All
import Wide.All
import OpenK.AllK
import Wide.FinOn
import HandS.ForMost
import HandS.Wide
import HandS.Style
import HandS.Flow
import HandS.Conv
import HandS.IsInst
import HandS.SortInts
import HandS.Zip
import PySem.Challenge.RW_termsdivide_k66_across_each_so_many_th_t
set_option Elab.async false
set_option linter.all false
set_option maxRecDepth 100000
set_option maxHeartbeats 4000000
set_option exponentiation.threshold 256
/-! A layer over HandS: values as data by structure (no addresses). A state is a list of slots; a slot holds data that stands for good (d), or a list of the def's own that may still grow (o). -/
namespace TQ
open PySem PySem.Spec PyProof.Rows L2

inductive D where
  | non | bl (b : Bool) | int (i : Int) | str (x : Str) | tup (ds : List D) | lst (ds : List D)
  | dK (ks : List Key) (ds : List D) | dT (ks : List (List Key)) (ds : List D) | set (S : Int → Bool) (n : Nat)
  | cls (a : Addr)
instance : Inhabited D := ⟨.non⟩

mutual
inductive Rep (K : PySem.W.Frag) (F : Hp) : V → D → Prop
  | non : Rep K F .non .non
  | bl (b : Bool) : Rep K F (.bl b) (.bl b)
  | int (i : Int) : Rep K F (.int i) (.int i)
  | str (x : Str) : Rep K F (.str x) (.str x)
  | tup {a : Addr} {vs : List V} {ds : List D} : SqT K F a vs → Reps K F vs ds → Rep K F (.ref a) (.tup ds)
  | lst {a : Addr} {vs : List V} {ds : List D} : SqL K F a vs → Reps K F vs ds → Rep K F (.ref a) (.lst ds)
  | dK {a : Addr} {ks : List Key} {vs : List V} {ds : List D} : F a = some (.dK (ks.zip vs)) → ks.length = vs.length → Reps K F vs ds → Rep K F (.ref a) (.dK ks ds)
  | dT {a : Addr} {ks : List (List Key)} {vs : List V} {ds : List D} : F a = some (.dT (ks.zip vs)) → ks.length = vs.length → Reps K F vs ds → Rep K F (.ref a) (.dT ks ds)
  | set {a : Addr} {S : Int → Bool} {n : Nat} : F a = some (.set S n) → Rep K F (.ref a) (.set S n)
  | cls (a : Addr) : Rep K F (.ref a) (.cls a)
inductive Reps (K : PySem.W.Frag) (F : Hp) : List V → List D → Prop
  | nil : Reps K F [] []
  | cons {v : V} {vs : List V} {d : D} {ds : List D} : Rep K F v d → Reps K F vs ds → Reps K F (v :: vs) (d :: ds)
end

theorem sqL_mono {K : PySem.W.Frag} {F F' : Hp} (e : Same F F') {a : Addr} {xs : List V} (h : SqL K F a xs) : SqL K F' a xs := e.seq h
theorem sqT_mono {K : PySem.W.Frag} {F F' : Hp} (e : Same F F') {a : Addr} {xs : List V} (h : SqT K F a xs) : SqT K F' a xs := by
  rcases h with (h | ⟨o, h⟩) | h
  · exact .inl (.inl (e _ _ h))
  · exact .inl (.inr ⟨o, e _ _ h⟩)
  · exact .inr h
mutual
theorem Rep.mono {K : PySem.W.Frag} {F F' : Hp} (e : Same F F') : ∀ {v : V} {d : D}, Rep K F v d → Rep K F' v d
  | _, _, .non => .non
  | _, _, .bl b => .bl b
  | _, _, .int i => .int i
  | _, _, .str x => .str x
  | _, _, .tup h r => .tup (sqT_mono e h) (Reps.mono e r)
  | _, _, .lst h r => .lst (sqL_mono e h) (Reps.mono e r)
  | _, _, .dK h l r => .dK (e _ _ h) l (Reps.mono e r)
  | _, _, .dT h l r => .dT (e _ _ h) l (Reps.mono e r)
  | _, _, .set h => .set (e _ _ h)
  | _, _, .cls a => .cls a
theorem Reps.mono {K : PySem.W.Frag} {F F' : Hp} (e : Same F F') : ∀ {vs : List V} {ds : List D}, Reps K F vs ds → Reps K F' vs ds
  | _, _, .nil => .nil
  | _, _, .cons h r => .cons (Rep.mono e h) (Reps.mono e r)
end
theorem Reps.length {K : PySem.W.Frag} {F : Hp} : ∀ {vs : List V} {ds : List D}, Reps K F vs ds → vs.length = ds.length
  | _, _, .nil => rfl
  | _, _, .cons _ r => by simp [r.length]
theorem Reps.get {K : PySem.W.Frag} {F : Hp} : ∀ {vs : List V} {ds : List D} {i : Nat} {d : D}, Reps K F vs ds → ds[i]? = some d → ∃ v, vs[i]? = some v ∧ Rep K F v d
  | _, _, i, _, .nil, h => by simp at h
  | _, _, 0, _, .cons (v := v) h _, e => by simp at e; subst e; exact ⟨v, rfl, h⟩
  | _, _, i + 1, _, .cons _ r, e => by simpa using r.get (i := i) (by simpa using e)
theorem Reps.getV {K : PySem.W.Frag} {F : Hp} : ∀ {vs : List V} {ds : List D} {i : Nat} {v : V}, Reps K F vs ds → vs[i]? = some v → ∃ d, ds[i]? = some d ∧ Rep K F v d
  | _, _, i, _, .nil, h => by simp at h
  | _, _, 0, _, .cons (d := d) h _, e => by simp at e; subst e; exact ⟨d, rfl, h⟩
  | _, _, i + 1, _, .cons _ r, e => by simpa using r.getV (i := i) (by simpa using e)
theorem Reps.append {K : PySem.W.Frag} {F : Hp} : ∀ {vs ws : List V} {ds es : List D}, Reps K F vs ds → Reps K F ws es → Reps K F (vs ++ ws) (ds ++ es)
  | _, _, _, _, .nil, s => s
  | _, _, _, _, .cons h r, s => .cons h (r.append s)
theorem Reps.snoc {K : PySem.W.Frag} {F : Hp} {vs : List V} {ds : List D} {v : V} {d : D} (r : Reps K F vs ds) (h : Rep K F v d) : Reps K F (vs ++ [v]) (ds ++ [d]) := r.append (.cons h .nil)
theorem Reps.take {K : PySem.W.Frag} {F : Hp} : ∀ {vs : List V} {ds : List D} (n : Nat), Reps K F vs ds → Reps K F (vs.take n) (ds.take n)
  | _, _, 0, _ => .nil
  | _, _, _ + 1, .nil => .nil
  | _, _, n + 1, .cons h r => .cons h (r.take n)
theorem Reps.drop {K : PySem.W.Frag} {F : Hp} : ∀ {vs : List V} {ds : List D} (n : Nat), Reps K F vs ds → Reps K F (vs.drop n) (ds.drop n)
  | _, _, 0, r => r
  | _, _, _ + 1, .nil => .nil
  | _, _, n + 1, .cons _ r => r.drop n
theorem Reps.set {K : PySem.W.Frag} {F : Hp} {v : V} {d : D} (h : Rep K F v d) : ∀ {vs : List V} {ds : List D} (n : Nat), Reps K F vs ds → Reps K F (vs.set n v) (ds.set n d)
  | _, _, _, .nil => .nil
  | _, _, 0, .cons _ r => .cons h r
  | _, _, n + 1, .cons g r => .cons g (r.set h n)
theorem Reps.reverse {K : PySem.W.Frag} {F : Hp} : ∀ {vs : List V} {ds : List D}, Reps K F vs ds → Reps K F vs.reverse ds.reverse
  | _, _, .nil => .nil
  | _, _, .cons h r => by simpa using r.reverse.append (.cons h .nil)
theorem Reps.ints {K : PySem.W.Frag} {F : Hp} : ∀ {vs : List V} {ns : List Int}, Reps K F vs (ns.map D.int) → vs = ns.map V.int
  | _, [], h => by cases h; rfl
  | _, n :: ns, h => by
    cases h with
    | cons h r => cases h; rw [Reps.ints r]; rfl
theorem Reps.ofInts {K : PySem.W.Frag} {F : Hp} : ∀ (ns : List Int), Reps K F (ns.map V.int) (ns.map D.int)
  | [] => .nil
  | n :: ns => .cons (.int n) (Reps.ofInts ns)
theorem Reps.bls {K : PySem.W.Frag} {F : Hp} : ∀ {vs : List V} {bs : List Bool}, Reps K F vs (bs.map D.bl) → vs = bs.map V.bl
  | _, [], h => by cases h; rfl
  | _, n :: ns, h => by
    cases h with
    | cons h r => cases h; rw [Reps.bls r]; rfl

/-- what an object of the def's own holds -/
def HOR (K : PySem.W.Frag) (F : Hp) : HO → D → Prop
  | .lst vs, .lst ds => Reps K F vs ds
  | .dK kv, .dK ks ds => ∃ vs, kv = ks.zip vs ∧ ks.length = vs.length ∧ Reps K F vs ds
  | .dT kv, .dT ks ds => ∃ vs, kv = ks.zip vs ∧ ks.length = vs.length ∧ Reps K F vs ds
  | .set S n, .set S' n' => S = S' ∧ n = n'
  | _, _ => False
theorem HOR.mono {K : PySem.W.Frag} {F F' : Hp} (e : Same F F') {o : HO} {d : D} (h : HOR K F o d) : HOR K F' o d := by
  cases o <;> cases d <;> simp only [HOR] at h ⊢ <;> try exact h
  · exact h.mono e
  · obtain ⟨vs, a, b, c⟩ := h; exact ⟨vs, a, b, c.mono e⟩
  · obtain ⟨vs, a, b, c⟩ := h; exact ⟨vs, a, b, c.mono e⟩
theorem HOR.rep {K : PySem.W.Frag} {F : Hp} {o : HO} {d : D} {a : Addr} (h : HOR K F o d) (e : F a = some o) : Rep K F (.ref a) d := by
  cases o <;> cases d <;> simp only [HOR] at h
  · exact .lst (SqL.of e) h
  · obtain ⟨vs, rfl, b, c⟩ := h; exact .dK e b c
  · obtain ⟨vs, rfl, b, c⟩ := h; exact .dT e b c
  · obtain ⟨rfl, rfl⟩ := h; exact .set e

inductive Sl where | no | d (x : D) | o (x : D)
abbrev SE := List Sl

/-- F: what stands for good; B: what stood at the entry; H: the heap -/
structure Rp (K : PySem.W.Frag) (F0 B F H : Hp) (σ : L2.St) (E : SE) : Prop where
  s0 : Same F0 F
  sB : Same B H
  sF : Same F H
  nw : ∀ a, F0 a = none → F a ≠ none → B a = none
  ln : E.length = σ.length
  fz : ∀ (i : Nat) (x : D), E[i]? = some (.d x) → ∃ v, σ[i]? = some (some v) ∧ Rep K F v x
  ow : ∀ (i : Nat) (x : D), E[i]? = some (.o x) → ∃ a ho, σ[i]? = some (some (.ref a)) ∧ F a = none ∧ B a = none ∧ H a = some ho ∧ HOR K F ho x
  dj : ∀ (i j : Nat) (x y : D) (a : Addr), E[i]? = some (.o x) → E[j]? = some (.o y) → σ[i]? = some (some (.ref a)) → σ[j]? = some (some (.ref a)) → i = j

/-- v is an object of the def's own that no slot holds yet -/
def Fr (K : PySem.W.Frag) (B F H : Hp) (σ : L2.St) (E : SE) (v : V) (x : D) : Prop :=
  ∃ a ho, v = .ref a ∧ F a = none ∧ B a = none ∧ H a = some ho ∧ HOR K F ho x ∧ ∀ (i : Nat) (y : D), E[i]? = some (.o y) → σ[i]? ≠ some (some (.ref a))

theorem none_of_same {F H : Hp} (e : Same F H) {a : Addr} (h : H a = none) : F a = none := e.free h
theorem same_upd {H : Hp} {a : Addr} {o : HO} (h : H a = none) : Same H (upd H a o) := fun b u e => by rw [upd_ne (ne_of_none e h)]; exact e
theorem same_upd2 {F H : Hp} {a : Addr} {o : HO} (e : Same F H) : Same (upd F a o) (upd H a o) := fun b u h => by
  by_cases q : b = a
  · subst q; rw [upd_same] at h ⊢; exact h
  · rw [upd_ne q] at h ⊢; exact e _ _ h
theorem same_updR {F H : Hp} {a : Addr} {o : HO} (e : Same F H) (h : F a = none) : Same F (upd H a o) := fun b u q => by rw [upd_ne (ne_of_none q h)]; exact e _ _ q
theorem same_updL {F H : Hp} {a : Addr} {o : HO} (e : Same F H) (h : H a = some o) : Same (upd F a o) H := fun b u q => by
  by_cases z : b = a
  · subst z; rw [upd_same] at q; rw [h]; exact q
  · rw [upd_ne z] at q; exact e _ _ q

section
variable {K : PySem.W.Frag} {F0 B F F' H H' : Hp} {σ σ' : L2.St} {E : SE} {a : Addr} {o : HO} {x : D} {v : V}
/-- the heap grows (a call, new objects) -/
theorem Rp.grow (r : Rp K F0 B F H σ E) (eF : Same F F') (eH : Same H H') (eS : Same F' H') (nw : ∀ a, F a = none → F' a ≠ none → H a = none) : Rp K F0 B F' H' σ E where
  s0 := r.s0.trans eF
  sB := r.sB.trans eH
  sF := eS
  nw := fun a h0 h' => by
    cases e : F a with
    | some o => exact r.nw a h0 (by rw [e]; simp)
    | none => exact none_of_same r.sB (nw a e h')
  ln := r.ln
  fz := fun i x e => let ⟨v, h1, h2⟩ := r.fz i x e; ⟨v, h1, h2.mono eF⟩
  ow := fun i x e => by
    obtain ⟨a, ho, h1, h2, h3, h4, h5⟩ := r.ow i x e
    refine ⟨a, ho, h1, ?_, h3, eH _ _ h4, h5.mono eF⟩
    cases q : F' a with
    | none => rfl
    | some u =>
      have := nw a h2 (by rw [q]; simp)
      rw [this] at h4; cases h4
  dj := r.dj
/-- a new object that stands for good -/
theorem Rp.new (r : Rp K F0 B F H σ E) (h : H a = none) : Rp K F0 B (upd F a o) (upd H a o) σ E :=
  r.grow (same_upd (none_of_same r.sF h)) (same_upd h) (same_upd2 r.sF) fun b h1 h2 => by
    by_cases q : b = a
    · rw [q]; exact h
    · rw [upd_ne q] at h2; exact absurd h1 h2
/-- a new object of the def's own -/
theorem Rp.newO (r : Rp K F0 B F H σ E) (h : H a = none) : Rp K F0 B F (upd H a o) σ E :=
  r.grow (Same.refl F) (same_upd h) (same_updR r.sF (none_of_same r.sF h)) fun b h1 h2 => absurd h1 h2
theorem Rp.frO (r : Rp K F0 B F H σ E) (h : H a = none) (ho : HOR K F o x) : Fr K B F (upd H a o) σ E (.ref a) x :=
  ⟨a, o, rfl, none_of_same r.sF h, none_of_same r.sB h, upd_same, ho, fun i y e q => by
    obtain ⟨b, hb, h1, h2, h3, h4, h5⟩ := r.ow i y e
    rw [h1] at q
    cases q
    rw [h] at h4; cases h4⟩
/-- what is the def's own may stand for good from here on -/
theorem Fr.freeze (r : Rp K F0 B F H σ E) (f : Fr K B F H σ E v x) : ∃ F', Same F F' ∧ Rp K F0 B F' H σ E ∧ Rep K F' v x := by
  obtain ⟨a, ho, rfl, h1, h2, h3, h4, h5⟩ := f
  have sF : Same F (upd F a ho) := same_upd h1
  refine ⟨upd F a ho, sF, ⟨r.s0.trans sF, r.sB, same_updL r.sF h3, fun b e0 e1 => ?_, r.ln, fun i x e => let ⟨v, g1, g2⟩ := r.fz i x e; ⟨v, g1, g2.mono sF⟩, fun i y e => ?_, r.dj⟩, (h4.mono sF).rep upd_same⟩
  · by_cases q : b = a
    · rw [q]; exact h2
    · rw [upd_ne q] at e1; exact r.nw b e0 e1
  · obtain ⟨b, hb, g1, g2, g3, g4, g5⟩ := r.ow i y e
    have : b ≠ a := by rintro rfl; exact h5 i y e g1
    exact ⟨b, hb, g1, by rw [upd_ne this]; exact g2, g3, g4, g5.mono sF⟩
theorem getset {α : Type} {l : List α} {i j : Nat} {x y : α} (h : (l.set i x)[j]? = some y) : (j = i ∧ y = x ∧ i < l.length) ∨ (j ≠ i ∧ l[j]? = some y) := by
  by_cases q : i = j
  · subst q
    rw [List.getElem?_set_self'] at h
    cases e : l[i]? with
    | none => rw [e] at h; cases h
    | some z => rw [e] at h; cases h; exact .inl ⟨rfl, rfl, (List.getElem?_eq_some_iff.mp e).1⟩
  · rw [List.getElem?_set_ne q] at h
    exact .inr ⟨fun z => q z.symm, h⟩
theorem setget {α : Type} {l : List α} {i j : Nat} {x y : α} (h : l[j]? = some y) (q : j ≠ i) : (l.set i x)[j]? = some y := by
  rw [List.getElem?_set_ne (fun z => q z.symm)]; exact h
theorem setself {α : Type} {l : List α} {i : Nat} {x : α} (h : i < l.length) : (l.set i x)[i]? = some x := by
  rw [List.getElem?_set_self h]
/-- a name is stored: data -/
theorem Rp.setD (r : Rp K F0 B F H σ E) (i : Nat) (h : Rep K F v x) : Rp K F0 B F H (σ.set i (some v)) (E.set i (.d x)) := by
  refine ⟨r.s0, r.sB, r.sF, r.nw, by simp [r.ln], fun j y e => ?_, fun j y e => ?_, fun j k y z a e1 e2 e3 e4 => ?_⟩
  · rcases getset e with ⟨rfl, e, l⟩ | ⟨n, e⟩
    · cases e; exact ⟨v, setself (r.ln ▸ l), h⟩
    · obtain ⟨w, g1, g2⟩ := r.fz j y e; exact ⟨w, setget g1 n, g2⟩
  · rcases getset e with ⟨rfl, e, l⟩ | ⟨n, e⟩
    · cases e
    · obtain ⟨w, ho, g1, g2⟩ := r.ow j y e; exact ⟨w, ho, setget g1 n, g2⟩
  · rcases getset e1 with ⟨_, e, _⟩ | ⟨n1, e1⟩
    · cases e
    rcases getset e2 with ⟨_, e, _⟩ | ⟨n2, e2⟩
    · cases e
    rcases getset e3 with ⟨q, _, _⟩ | ⟨_, e3⟩
    · exact absurd q n1
    rcases getset e4 with ⟨q, _, _⟩ | ⟨_, e4⟩
    · exact absurd q n2
    exact r.dj j k y z a e1 e2 e3 e4
/-- a name is stored: an object of the def's own -/
theorem Rp.setO (r : Rp K F0 B F H σ E) (i : Nat) (f : Fr K B F H σ E v x) : Rp K F0 B F H (σ.set i (some v)) (E.set i (.o x)) := by
  obtain ⟨a, ho, rfl, h1, h2, h3, h4, h5⟩ := f
  refine ⟨r.s0, r.sB, r.sF, r.nw, by simp [r.ln], fun j y e => ?_, fun j y e => ?_, fun j k y z b e1 e2 e3 e4 => ?_⟩
  · rcases getset e with ⟨rfl, e, l⟩ | ⟨n, e⟩
    · cases e
    · obtain ⟨w, g1, g2⟩ := r.fz j y e; exact ⟨w, setget g1 n, g2⟩
  · rcases getset e with ⟨rfl, e, l⟩ | ⟨n, e⟩
    · cases e; exact ⟨a, ho, setself (r.ln ▸ l), h1, h2, h3, h4⟩
    · obtain ⟨w, ho, g1, g2⟩ := r.ow j y e; exact ⟨w, ho, setget g1 n, g2⟩
  · rcases getset e1 with ⟨rfl, _, l1⟩ | ⟨n1, e1⟩
    · rcases getset e2 with ⟨rfl, _, l2⟩ | ⟨n2, e2⟩
      · rfl
      · rw [setself (r.ln ▸ l1)] at e3; cases e3
        rcases getset e4 with ⟨q, _, _⟩ | ⟨_, e4⟩
        · exact absurd q n2
        · exact absurd e4 (h5 k z e2)
    · rcases getset e2 with ⟨q2, _, l2⟩ | ⟨n2, e2⟩
      · rw [q2, setself (r.ln ▸ l2)] at e4; cases e4
        rcases getset e3 with ⟨q, _, _⟩ | ⟨_, e3⟩
        · exact absurd q n1
        · exact absurd e3 (h5 j y e1)
      · rcases getset e3 with ⟨q, _, _⟩ | ⟨_, e3⟩
        · exact absurd q n1
        rcases getset e4 with ⟨q, _, _⟩ | ⟨_, e4⟩
        · exact absurd q n2
        exact r.dj j k y z b e1 e2 e3 e4
/-- an object of the def's own is changed -/
theorem Rp.mutO {ho : HO} {y : D} {i : Nat} (r : Rp K F0 B F H σ E) (e : E[i]? = some (.o y)) (hs : σ[i]? = some (some (.ref a))) (h : HOR K F ho x) : Rp K F0 B F (upd H a ho) σ (E.set i (.o x)) := by
  obtain ⟨b, hb, g1, g2, g3, g4, g5⟩ := r.ow i y e
  rw [hs] at g1; cases g1
  refine ⟨r.s0, same_updR r.sB g3, same_updR r.sF g2, r.nw, by simp [r.ln], fun j z q => ?_, fun j z q => ?_, fun j k z w c e1 e2 e3 e4 => ?_⟩
  · rcases getset q with ⟨_, q, _⟩ | ⟨n, q⟩
    · cases q
    · exact r.fz j z q
  · rcases getset q with ⟨rfl, q, _⟩ | ⟨n, q⟩
    · cases q; exact ⟨a, ho, hs, g2, g3, upd_same, h⟩
    · obtain ⟨c, hc, k1, k2, k3, k4, k5⟩ := r.ow j z q
      have : c ≠ a := by rintro rfl; exact n (r.dj j i z y _ q e k1 hs)
      exact ⟨c, hc, k1, k2, k3, by rw [upd_ne this]; exact k4, k5⟩
  · have f : ∀ {j : Nat} {z : D}, (E.set i (.o x))[j]? = some (.o z) → ∃ z' : D, E[j]? = some (.o z') := fun {j z} q => by
      rcases getset q with ⟨rfl, _, _⟩ | ⟨_, q⟩
      · exact ⟨y, e⟩
      · exact ⟨z, q⟩
    obtain ⟨z', e1⟩ := f e1
    obtain ⟨w', e2⟩ := f e2
    exact r.dj j k z' w' c e1 e2 e3 e4
/-- forgetting a slot's tale -/
theorem Rp.weak {E' : SE} (r : Rp K F0 B F H σ E) (l : E'.length = E.length) (h : ∀ (i : Nat) s, E'[i]? = some s → s = .no ∨ E[i]? = some s) : Rp K F0 B F H σ E' :=
  ⟨r.s0, r.sB, r.sF, r.nw, l.trans r.ln, fun i x e => by rcases h i _ e with q | q; (· cases q); (· exact r.fz i x q),
   fun i x e => by rcases h i _ e with q | q; (· cases q); (· exact r.ow i x q),
   fun i j x y a e1 e2 e3 e4 => by
    rcases h i _ e1 with q | q
    · cases q
    rcases h j _ e2 with q' | q'
    · cases q'
    exact r.dj i j x y a q q' e3 e4⟩
end
end TQ

namespace TQ
open PySem PySem.Spec PyProof.Rows L2

def gt : SE → Nat → Sl
  | [], _ => .no
  | s :: _, 0 => s
  | _ :: r, n + 1 => gt r n
def pt : SE → Nat → Sl → SE
  | [], _, _ => []
  | _ :: r, 0, s => s :: r
  | t :: r, n + 1, s => t :: pt r n s
theorem gt_d : ∀ {E : SE} {i : Nat} {x : D}, gt E i = .d x → E[i]? = some (.d x)
  | [], _, _, h => by simp [gt] at h
  | s :: _, 0, _, h => by simp only [gt] at h; subst h; rfl
  | _ :: r, n + 1, _, h => by simpa using gt_d (E := r) (i := n) (by simpa [gt] using h)
theorem gt_o : ∀ {E : SE} {i : Nat} {x : D}, gt E i = .o x → E[i]? = some (.o x)
  | [], _, _, h => by simp [gt] at h
  | s :: _, 0, _, h => by simp only [gt] at h; subst h; rfl
  | _ :: r, n + 1, _, h => by simpa using gt_o (E := r) (i := n) (by simpa [gt] using h)
theorem pt_set : ∀ (E : SE) (i : Nat) (s : Sl), pt E i s = E.set i s
  | [], _, _ => rfl
  | _ :: _, 0, _ => rfl
  | _ :: r, n + 1, s => by simp [pt, pt_set r n s]

abbrev TV := SE → (D → SE → Prop) → Prop
abbrev TB := SE → (Bool → SE → Prop) → Prop
abbrev TAr := SE → (List D → SE → Prop) → Prop
abbrev TIt := SE → (List D → SE → Prop) → Prop
abbrev TGt := D → SE → (SE → Prop) → Prop
abbrev TGts := List D → SE → (SE → Prop) → Prop
structure En where
  nx : SE → Prop
  rt : D → SE → Prop
  bk : SE → Prop
  ct : SE → Prop
abbrev TSt := En → SE → Prop

section
variable (K : PySem.W.Frag) (F0 B : Hp)
def upV (t : TV) : TE := fun σ H Q => ∃ F E R, Rp K F0 B F H σ E ∧ t E R ∧ ∀ v F' H' x E', Same F F' → Rp K F0 B F' H' σ E' → Rep K F' v x → R x E' → Q v H'
def upF (t : TV) : TE := fun σ H Q => ∃ F E R, Rp K F0 B F H σ E ∧ t E R ∧ ∀ v F' H' x E', Same F F' → Rp K F0 B F' H' σ E' → Fr K B F' H' σ E' v x → R x E' → Q v H'
def upT (t : TB) : TT := fun σ H Q => ∃ F E R, Rp K F0 B F H σ E ∧ t E R ∧ ∀ b F' H' E', Same F F' → Rp K F0 B F' H' σ E' → R b E' → Q b H'
def upA (t : TAr) : TA := fun σ H Q => ∃ F E R, Rp K F0 B F H σ E ∧ t E R ∧ ∀ vs F' H' xs E', Same F F' → Rp K F0 B F' H' σ E' → Reps K F' vs xs → R xs E' → Q vs H'
/-- two states that differ at ts alone -/
def Agr (ts : List Nat) (σ σ' : L2.St) : Prop := σ'.length = σ.length ∧ ∀ i, i ∉ ts → σ'[i]? = σ[i]?
def upG (ts : List Nat) (t : TGt) : TG := fun v σ H Q => ∃ F E x R, Rp K F0 B F H σ E ∧ Rep K F v x ∧ t x E R ∧ ∀ F' H' σ' E', Same F F' → Rp K F0 B F' H' σ' E' → Agr ts σ σ' → R E' → Q σ' H'
def upGs (ts : List Nat) (t : TGts) : TGs := fun vs σ H Q => ∃ F E xs R, Rp K F0 B F H σ E ∧ Reps K F vs xs ∧ t xs E R ∧ ∀ F' H' σ' E', Same F F' → Rp K F0 B F' H' σ' E' → Agr ts σ σ' → R E' → Q σ' H'
/-- how a def ends: with data; with a new list of its own; having had a list of the caller's own as its first argument (slot 0 then stays) -/
inductive Md where | d | n | m
def St0 : Md → L2.St → L2.St → Prop
  | .m, σ, σ' => σ'[0]? = σ[0]?
  | _, _, _ => True
theorem St0.refl {md : Md} {σ : L2.St} : St0 md σ σ := by cases md <;> trivial
theorem St0.trans {md : Md} {σ σ1 σ2 : L2.St} (a : St0 md σ σ1) (b : St0 md σ1 σ2) : St0 md σ σ2 := by
  cases md <;> first | trivial | exact Eq.trans b a
def ok0 : Md → Nat → Bool
  | .m, 0 => false
  | _, _ => true
theorem St0.set {md : Md} {σ : L2.St} {i : Nat} {v : Option V} (h : ok0 md i = true) : St0 md σ (σ.set i v) := by
  cases md <;> first | trivial | skip
  cases i with
  | zero => cases h
  | succ i => exact List.getElem?_set_ne (by simp)
theorem St0.agr {md : Md} {σ σ' : L2.St} {ts : List Nat} (a : Agr ts σ σ') (h : ts.all (ok0 md) = true) : St0 md σ σ' := by
  cases md <;> first | trivial | skip
  refine a.2 0 fun z => ?_
  have := List.all_eq_true.mp h 0 z
  cases this
structure Back (F : Hp) (md : Md) (σ : L2.St) (N : En) (D : Ends) : Prop where
  nx : ∀ F' H' σ' E', Same F F' → Rp K F0 B F' H' σ' E' → St0 md σ σ' → N.nx E' → D.nx σ' H'
  rt : ∀ v F' H' σ' x E', Same F F' → Rp K F0 B F' H' σ' E' → St0 md σ σ' → (match md with | .n => Fr K B F' H' σ' E' v x | _ => Rep K F' v x) → N.rt x E' → D.rt v H'
  bk : ∀ F' H' σ' E', Same F F' → Rp K F0 B F' H' σ' E' → St0 md σ σ' → N.bk E' → D.bk σ' H'
  ct : ∀ F' H' σ' E', Same F F' → Rp K F0 B F' H' σ' E' → St0 md σ σ' → N.ct E' → D.ct σ' H'
def upS (md : Md) (t : TSt) : TS := fun D σ H => ∃ F E N, Rp K F0 B F H σ E ∧ t N E ∧ Back K F0 B F md σ N D
end
theorem Back.mono {K : PySem.W.Frag} {F0 B F F1 : Hp} {md : Md} {σ σ1 : L2.St} {N : En} {D : Ends} (e : Same F F1) (z : St0 md σ σ1) (b : Back K F0 B F md σ N D) : Back K F0 B F1 md σ1 N D :=
  ⟨fun F' H' σ' E' s r y => b.nx F' H' σ' E' (e.trans s) r (z.trans y), fun v F' H' σ' x E' s r y => b.rt v F' H' σ' x E' (e.trans s) r (z.trans y), fun F' H' σ' E' s r y => b.bk F' H' σ' E' (e.trans s) r (z.trans y), fun F' H' σ' E' s r y => b.ct F' H' σ' E' (e.trans s) r (z.trans y)⟩

def PV (X : Cx) (e : Expr) (t : TV) : Prop := ∀ F0 B, PE X e (upV X.K F0 B t)
def PF (X : Cx) (e : Expr) (t : TV) : Prop := ∀ F0 B, PE X e (upF X.K F0 B t)
def PTt (X : Cx) (e : Expr) (t : TB) : Prop := ∀ F0 B, PT X e (upT X.K F0 B t)
def PWt (X : Cx) (e : Expr) (t : TB) : Prop := ∀ F0 B, PW X e (upT X.K F0 B t)
def PAr (X : Cx) (es : List Expr) (t : TAr) : Prop := ∀ F0 B, PA X es (upA X.K F0 B t)
def PKr (X : Cx) (ks : List Keyword) (t : TAr) : Prop := ∀ F0 B, PK X ks (upA X.K F0 B t)
def PGt (X : Cx) (e : Expr) (ts : List Nat) (t : TGt) : Prop := ∀ F0 B, PG X e (upG X.K F0 B ts t)
def PGts (X : Cx) (es : List Expr) (ts : List Nat) (t : TGts) : Prop := ∀ F0 B, PGs X es (upGs X.K F0 B ts t)
def PSt (X : Cx) (md : Md) (st : Stmt) (t : TSt) : Prop := ∀ F0 B, PS X st (upS X.K F0 B md t)
def PSts (X : Cx) (md : Md) (st : List Stmt) (t : TSt) : Prop := ∀ F0 B, PSs X st (upS X.K F0 B md t)

section
variable {X : Cx} {e : Expr} {t : TV}
theorem PE.imp {t t' : TE} (h : PE X e t) (i : ∀ σ H Q, t' σ H Q → t σ H Q) : PE X e t' := ⟨fun pins s σ H Q I q => h.run pins s σ H Q I (i σ H Q q)⟩
theorem PT.imp {t t' : TT} (h : PT X e t) (i : ∀ σ H Q, t' σ H Q → t σ H Q) : PT X e t' := ⟨fun pins s σ H Q I q => h.run pins s σ H Q I (i σ H Q q)⟩
theorem PW.imp {t t' : TT} (h : PW X e t) (i : ∀ σ H Q, t' σ H Q → t σ H Q) : PW X e t' := ⟨fun wh pins s σ H Q I q => h.run wh pins s σ H Q I (i σ H Q q)⟩
theorem PA.imp {es : List Expr} {t t' : TA} (h : PA X es t) (i : ∀ σ H Q, t' σ H Q → t σ H Q) : PA X es t' := ⟨fun p pins s σ H Q I q => h.run p pins s σ H Q I (i σ H Q q)⟩
theorem PK.imp {es : List Keyword} {t t' : TA} (h : PK X es t) (i : ∀ σ H Q, t' σ H Q → t σ H Q) : PK X es t' := ⟨fun p pins s σ H Q I q => h.run p pins s σ H Q I (i σ H Q q)⟩
theorem PS.imp {st : Stmt} {t t' : TS} (h : PS X st t) (i : ∀ D σ H, t' D σ H → t D σ H) : PS X st t' := ⟨fun pins s σ H D I q => h.run pins s σ H D I (i D σ H q)⟩
theorem PSs.imp {st : List Stmt} {t t' : TS} (h : PSs X st t) (i : ∀ D σ H, t' D σ H → t D σ H) : PSs X st t' := ⟨fun pins s σ H D I q => h.run pins s σ H D I (i D σ H q)⟩
theorem PG.imp {t t' : TG} (h : PG X e t) (i : ∀ v σ H Q, t' v σ H Q → t v σ H Q) : PG X e t' := ⟨fun pins s σ H v u Q I r q => h.run pins s σ H v u Q I r (i v σ H Q q)⟩
theorem PGs.imp {es : List Expr} {t t' : TGs} (h : PGs X es t) (i : ∀ v σ H Q, t' v σ H Q → t v σ H Q) : PGs X es t' := ⟨fun pins s σ H v u Q I r q => h.run pins s σ H v u Q I r (i v σ H Q q)⟩

theorem pv_of (h : PF X e t) : PV X e t := fun F0 B => PE.imp (h F0 B) fun σ H Q ⟨F, E, R, r, ht, k⟩ => ⟨F, E, R, r, ht, fun v F' H' x E' s r' f hR => by
  obtain ⟨F2, s2, r2, p⟩ := f.freeze r'
  exact k v F2 H' x E' (s.trans s2) r2 p hR⟩

/-! ### names, constants -/
def tVr (i : Nat) : TV := fun E R => match gt E i with
  | .d x => R x E
  | .o x => R x (pt E i (.d x))
  | .no => False
theorem Rp.freezeSlot {K : PySem.W.Frag} {F0 B F H : Hp} {σ : L2.St} {E : SE} {i : Nat} {x : D} (r : Rp K F0 B F H σ E) (h : E[i]? = some (.o x)) :
    ∃ F' v, Same F F' ∧ Rp K F0 B F' H σ (E.set i (.d x)) ∧ σ[i]? = some (some v) ∧ Rep K F' v x := by
  obtain ⟨a, ho, g1, g2, g3, g4, g5⟩ := r.ow i x h
  have r1 : Rp K F0 B F H σ (E.set i .no) := r.weak (by simp) fun j s q => by
    rcases getset q with ⟨_, q, _⟩ | ⟨_, q⟩
    · exact .inl q
    · exact .inr q
  have f : Fr K B F H σ (E.set i .no) (.ref a) x := ⟨a, ho, rfl, g2, g3, g4, g5, fun j y q z => by
    rcases getset q with ⟨_, q, _⟩ | ⟨n, q⟩
    · cases q
    · exact n (r.dj j i y x a q h z g1)⟩
  obtain ⟨F', s, r', p⟩ := f.freeze r1
  refine ⟨F', .ref a, s, ?_, g1, p⟩
  have r2 := r'.setD i p
  rw [List.set_set] at r2
  have e : σ.set i (some (.ref a)) = σ := by
    apply List.ext_getElem?
    intro j
    by_cases q : i = j
    · subst q; rw [List.getElem?_set_self', g1]; rfl
    · rw [List.getElem?_set_ne q]
  rw [e] at r2
  exact r2
theorem pv_var (i : Nat) {x : Str} {pos : Pos} (hN : X.N[i]? = some x := by rfl) (hv : Vis X.env.scope x := by first | exact Or.inl rfl | exact Or.inr (Or.inl rfl) | exact Or.inr (Or.inr rfl)) (hd : (x == ("__debug__" : Str)) = false := by decide)
    (hcd : (x == ("__classdict__" : Str)) = false := by decide) : PV X (.Name x pos) (tVr i) := fun F0 B => PE.imp (pe_var hN hv hd hcd) fun σ H Q ⟨F, E, R, r, ht, k⟩ => by
  unfold tVr at ht
  split at ht
  · rename_i x q
    obtain ⟨v, g1, g2⟩ := r.fz i x (gt_d q)
    exact ⟨v, g1, k v F H x E (Same.refl F) r g2 ht⟩
  · rename_i x q
    obtain ⟨F', v, s, r', g1, p⟩ := r.freezeSlot (gt_o q)
    rw [pt_set] at ht
    exact ⟨v, g1, k v F' H x _ s r' p ht⟩
  · exact ht.elim
def tKc (c : D) : TV := fun E R => R c E
theorem pv_const {v : V} {c : D} (h : PE X e (tC v)) (r : ∀ F, Rep X.K F v c) : PV X e (tKc c) := fun F0 B => PE.imp h fun σ H Q ⟨F, E, R, rp, ht, k⟩ => k v F H c E (Same.refl F) rp (r F) ht
theorem pv_int {i j pos} : PV X (.Constant (.int i) j pos) (tKc (.int i)) := pv_const pe_int fun _ => .int i
theorem pv_bl {b j pos} : PV X (.Constant (.bool b) j pos) (tKc (.bl b)) := pv_const pe_bl fun _ => .bl b
theorem pv_non {j pos} : PV X (.Constant .none j pos) (tKc .non) := pv_const pe_non fun _ => .non
theorem pv_str {x j pos} : PV X (.Constant (.str x) j pos) (tKc (.str x)) := pv_const pe_str fun _ => .str x
theorem pv_globI {x : Str} {i : Int} {pos : Pos} (hg : Gl X x) (hm : ∃ t, X.mg x = some (.int i t)) (hd : (x == ("__debug__" : Str)) = false := by decide) : PV X (.Name x pos) (tKc (.int i)) :=
  let ⟨t, ht⟩ := hm
  pv_const (pe_glob (v := .int i) hg ht ⟨t, rfl⟩ hd) fun _ => .int i

/-! ### two-place operations -/
abbrev O2 := D → D → (D → Prop) → Prop
def Op2 (X : Cx) (r : R2) (o : O2) : Prop := ∀ F0 B F H σ E v u x y (k : D → Prop) (Q : VK), Rp X.K F0 B F H σ E → Rep X.K F v x → Rep X.K F u y → o x y k →
  (∀ w F' H' z, Same F F' → Rp X.K F0 B F' H' σ E → Rep X.K F' w z → k z → Q w H') → r v u H Q
def tBin (o : O2) (ta tb : TV) : TV := fun E R => ta E fun x E1 => tb E1 fun y E2 => o x y fun z => R z E2
theorem bin_up {r : R2} {o : O2} {ta tb : TV} (h : Op2 X r o) {F0 B : Hp} (σ : L2.St) (H : Hp) (Q : VK) (q : upV X.K F0 B (tBin o ta tb) σ H Q) : tOp r (upV X.K F0 B ta) (upV X.K F0 B tb) σ H Q := by
  obtain ⟨F, E, R, rp, ht, k⟩ := q
  refine ⟨F, E, _, rp, ht, fun v F1 H1 x E1 s1 r1 p1 ht1 => ?_⟩
  refine ⟨F1, E1, _, r1, ht1, fun u F2 H2 y E2 s2 r2 p2 ht2 => ?_⟩
  exact h F0 B F2 H2 σ E2 v u x y _ Q r2 (p1.mono s2) p2 ht2 fun w F' H' z s3 r3 p3 hz => k w F' H' z E2 ((s1.trans s2).trans s3) r3 p3 hz
theorem pv_bin {op : Operator} {r : R2} {o : O2} {a b : Expr} {ta tb : TV} {pos : Pos} (ho : OpR X (binaryOp op) r) (h : Op2 X r o) (ha : PV X a ta) (hb : PV X b tb) : PV X (.BinOp a op b pos) (tBin o ta tb) :=
  fun F0 B => PE.imp (pe_op ho (ha F0 B) (hb F0 B)) (bin_up h)
theorem pv_cmp {op : CmpOp} {r : R2} {o : O2} {a b : Expr} {ta tb : TV} {pos : Pos} (ho : OpR X (compareOp op) r) (h : Op2 X r o) (ha : PV X a ta) (hb : PV X b tb) (hm : behindInMarks op b = false) : PV X (.Compare a [op] [b] pos) (tBin o ta tb) :=
  fun F0 B => PE.imp (pe_cmpR ho (ha F0 B) (hb F0 B) hm) (bin_up h)
def tTs (t : TV) : TB := fun E R => t E fun x E1 => match x with
  | .bl b => R b E1
  | _ => False
theorem rep_bl {K : PySem.W.Frag} {F : Hp} {v : V} {b : Bool} (h : Rep K F v (.bl b)) : v = .bl b := by cases h; rfl
theorem rep_int {K : PySem.W.Frag} {F : Hp} {v : V} {i : Int} (h : Rep K F v (.int i)) : v = .int i := by cases h; rfl
theorem rep_str {K : PySem.W.Frag} {F : Hp} {v : V} {i : Str} (h : Rep K F v (.str i)) : v = .str i := by cases h; rfl
theorem rep_non {K : PySem.W.Frag} {F : Hp} {v : V} (h : Rep K F v .non) : v = .non := by cases h; rfl
theorem tst_up {t : TV} {F0 B : Hp} (σ : L2.St) (H : Hp) (Q : Bool → Hp → Prop) (q : upT X.K F0 B (tTs t) σ H Q) : tTest (upV X.K F0 B t) σ H Q := by
  obtain ⟨F, E, R, rp, ht, k⟩ := q
  refine ⟨F, E, _, rp, ht, fun v F1 H1 x E1 s1 r1 p1 ht1 => ?_⟩
  split at ht1
  · rename_i b
    exact ⟨b, rep_bl p1, k b F1 H1 E1 s1 r1 ht1⟩
  · exact ht1.elim
theorem pt_cmp' {op : CmpOp} {r : R2} {o : O2} {a b : Expr} {ta tb : TV} {pos : Pos} (ho : OpR X (compareOp op) r) (h : Op2 X r o) (ha : PV X a ta) (hb : PV X b tb) (hm : behindInMarks op b = false) : PTt X (.Compare a [op] [b] pos) (tTs (tBin o ta tb)) :=
  fun F0 B => PT.imp (PT.imp (pt_cmpR ho (ha F0 B) (hb F0 B) hm) fun σ H Q q => by
    obtain ⟨F, E, R, rp, ht, k⟩ := q
    exact bin_up h σ H _ ⟨F, E, _, rp, ht, k⟩) (tst_up (t := tBin o ta tb))
theorem pt_val' {t : TV} (h : PV X e t) (he : ∀ whole, isTrue e X.env whole = (do let v ← whole; standAt e.pos; holding [v] (truthy v)) := by intro _; rfl) : PTt X e (tTs t) :=
  fun F0 B => PT.imp (pt_val (h F0 B) he) (tst_up (t := t))
/-- a list's truth -/
def tTr (t : TV) : TB := fun E R => t E fun x E1 => match x with
  | .bl b => R b E1
  | .lst ds => R (!ds.isEmpty) E1
  | .tup ds => R (!ds.isEmpty) E1
  | .int i => R (i != 0) E1
  | _ => False
/-! tests -/
def tAn (t u : TB) : TB := fun E R => t E fun b E1 => (b = true → u E1 R) ∧ (b = false → R false E1)
def tOo (t u : TB) : TB := fun E R => t E fun b E1 => (b = true → R true E1) ∧ (b = false → u E1 R)
def tNo (t : TB) : TB := fun E R => t E fun b E1 => R (!b) E1
theorem pt_of_pw {t : TB} (h : PWt X e t) : PTt X e t := fun F0 B => (h F0 B).pt
section
variable {a b : Expr} {rest : List Expr} {pos : Pos} {t u : TB}
theorem pw_and1' (ha : PTt X a t) : PWt X (.BoolOp .And [a] pos) t := fun F0 B => pw_and1 (ha F0 B)
theorem pw_or1' (ha : PTt X a t) : PWt X (.BoolOp .Or [a] pos) t := fun F0 B => pw_or1 (ha F0 B)
theorem pw_and' (ha : PTt X a t) (hb : PWt X (.BoolOp .And (b :: rest) pos) u) : PWt X (.BoolOp .And (a :: b :: rest) pos) (tAn t u) := fun F0 B => PW.imp (pw_and (ha F0 B) (hb F0 B)) fun σ H Q ⟨F, E, R, rp, ht, k⟩ =>
  ⟨F, E, _, rp, ht, fun c F1 H1 E1 s1 r1 h1 => by
    cases c with
    | true => exact ⟨F1, E1, R, r1, h1.1 rfl, fun b F2 H2 E2 s2 => k b F2 H2 E2 (s1.trans s2)⟩
    | false => exact k false F1 H1 E1 s1 r1 (h1.2 rfl)⟩
theorem pw_or' (ha : PTt X a t) (hb : PWt X (.BoolOp .Or (b :: rest) pos) u) : PWt X (.BoolOp .Or (a :: b :: rest) pos) (tOo t u) := fun F0 B => PW.imp (pw_or (ha F0 B) (hb F0 B)) fun σ H Q ⟨F, E, R, rp, ht, k⟩ =>
  ⟨F, E, _, rp, ht, fun c F1 H1 E1 s1 r1 h1 => by
    cases c with
    | false => exact ⟨F1, E1, R, r1, h1.2 rfl, fun b F2 H2 E2 s2 => k b F2 H2 E2 (s1.trans s2)⟩
    | true => exact k true F1 H1 E1 s1 r1 (h1.1 rfl)⟩
theorem pt_not' (ha : PTt X a t) : PTt X (.UnaryOp .Not a pos) (tNo t) := fun F0 B => PT.imp (pt_not (ha F0 B)) fun σ H Q ⟨F, E, R, rp, ht, k⟩ =>
  ⟨F, E, _, rp, ht, fun c F1 H1 E1 s1 r1 h1 => k _ F1 H1 E1 s1 r1 h1⟩
end
/-! as values -/
def tAnV (t u : TV) : TV := fun E R => t E fun x E1 => match x with
  | .bl b => (b = true → u E1 R) ∧ (b = false → R (.bl false) E1)
  | _ => False
def tOoV (t u : TV) : TV := fun E R => t E fun x E1 => match x with
  | .bl b => (b = true → R (.bl true) E1) ∧ (b = false → u E1 R)
  | _ => False
def tNoV (t : TV) : TV := fun E R => t E fun x E1 => match x with
  | .bl b => R (.bl (!b)) E1
  | _ => False
def tIfE (c : TB) (t u : TV) : TV := fun E R => c E fun b E1 => (b = true → t E1 R) ∧ (b = false → u E1 R)
section
variable {a b c : Expr} {rest : List Expr} {pos : Pos} {t u : TV} {op : BoolOp}
theorem pv_one (h : PV X a t) : PV X (.BoolOp op [a] pos) t := fun F0 B => pe_one (h F0 B)
theorem pv_and (ha : PV X a t) (hb : PV X (.BoolOp .And (b :: rest) pos) u) : PV X (.BoolOp .And (a :: b :: rest) pos) (tAnV t u) := fun F0 B => PE.imp (pe_and (ha F0 B) (hb F0 B)) fun σ H Q ⟨F, E, R, rp, ht, k⟩ =>
  ⟨F, E, _, rp, ht, fun v F1 H1 x E1 s1 r1 p1 h1 => by
    split at h1
    · rename_i c
      refine ⟨c, rep_bl p1, ?_⟩
      cases c with
      | true => exact ⟨F1, E1, R, r1, h1.1 rfl, fun b F2 H2 x2 E2 s2 => k b F2 H2 x2 E2 (s1.trans s2)⟩
      | false => exact k _ F1 H1 _ E1 s1 r1 (.bl false) (h1.2 rfl)
    · exact h1.elim⟩
theorem pv_or (ha : PV X a t) (hb : PV X (.BoolOp .Or (b :: rest) pos) u) : PV X (.BoolOp .Or (a :: b :: rest) pos) (tOoV t u) := fun F0 B => PE.imp (pe_or (ha F0 B) (hb F0 B)) fun σ H Q ⟨F, E, R, rp, ht, k⟩ =>
  ⟨F, E, _, rp, ht, fun v F1 H1 x E1 s1 r1 p1 h1 => by
    split at h1
    · rename_i c
      refine ⟨c, rep_bl p1, ?_⟩
      cases c with
      | false => exact ⟨F1, E1, R, r1, h1.2 rfl, fun b F2 H2 x2 E2 s2 => k b F2 H2 x2 E2 (s1.trans s2)⟩
      | true => exact k _ F1 H1 _ E1 s1 r1 (.bl true) (h1.1 rfl)
    · exact h1.elim⟩
theorem pv_not (ha : PV X a t) : PV X (.UnaryOp .Not a pos) (tNoV t) := fun F0 B => PE.imp (pe_not (ha F0 B)) fun σ H Q ⟨F, E, R, rp, ht, k⟩ =>
  ⟨F, E, _, rp, ht, fun v F1 H1 x E1 s1 r1 p1 h1 => by
    split at h1
    · rename_i c
      exact ⟨c, rep_bl p1, k _ F1 H1 _ E1 s1 r1 (.bl _) h1⟩
    · exact h1.elim⟩
theorem pv_ifE {tc : TB} (hc : PTt X c tc) (ha : PV X a t) (hb : PV X b u) : PV X (.IfExp c a b pos) (tIfE tc t u) := fun F0 B => PE.imp (pe_ifExp (hc F0 B) (ha F0 B) (hb F0 B)) fun σ H Q ⟨F, E, R, rp, ht, k⟩ =>
  ⟨F, E, _, rp, ht, fun c F1 H1 E1 s1 r1 h1 => by
    cases c with
    | true => exact ⟨F1, E1, R, r1, h1.1 rfl, fun b F2 H2 x2 E2 s2 => k b F2 H2 x2 E2 (s1.trans s2)⟩
    | false => exact ⟨F1, E1, R, r1, h1.2 rfl, fun b F2 H2 x2 E2 s2 => k b F2 H2 x2 E2 (s1.trans s2)⟩⟩
theorem pf_ifE {tc : TB} (hc : PTt X c tc) (ha : PF X a t) (hb : PF X b u) : PF X (.IfExp c a b pos) (tIfE tc t u) := fun F0 B => PE.imp (pe_ifExp (hc F0 B) (ha F0 B) (hb F0 B)) fun σ H Q ⟨F, E, R, rp, ht, k⟩ =>
  ⟨F, E, _, rp, ht, fun c F1 H1 E1 s1 r1 h1 => by
    cases c with
    | true => exact ⟨F1, E1, R, r1, h1.1 rfl, fun b F2 H2 x2 E2 s2 => k b F2 H2 x2 E2 (s1.trans s2)⟩
    | false => exact ⟨F1, E1, R, r1, h1.2 rfl, fun b F2 H2 x2 E2 s2 => k b F2 H2 x2 E2 (s1.trans s2)⟩⟩
end
/-! ### one-place operations -/
abbrev O1 := D → (D → Prop) → Prop
def Op1 (X : Cx) (r : V → Hp → VK → Prop) (o : O1) : Prop := ∀ F0 B F H σ E v x (k : D → Prop) (Q : VK), Rp X.K F0 B F H σ E → Rep X.K F v x → o x k →
  (∀ w F' H' z, Same F F' → Rp X.K F0 B F' H' σ E → Rep X.K F' w z → k z → Q w H') → r v H Q
def tUnr (o : O1) (ta : TV) : TV := fun E R => ta E fun x E1 => o x fun z => R z E1
theorem pv_un {op : UnaryOp} {r : V → Hp → VK → Prop} {o : O1} {a : Expr} {ta : TV} {pos : Pos} (ho : UnR X (unaryOp op) r) (h : Op1 X r o) (ha : PV X a ta) : PV X (.UnaryOp op a pos) (tUnr o ta) :=
  fun F0 B => PE.imp (pe_un ho (ha F0 B)) fun σ H Q ⟨F, E, R, rp, ht, k⟩ => ⟨F, E, _, rp, ht, fun v F1 H1 x E1 s1 r1 p1 h1 =>
    h F0 B F1 H1 σ E1 v x _ Q r1 p1 h1 fun w F' H' z s3 r3 p3 hz => k w F' H' z E1 (s1.trans s3) r3 p3 hz⟩

/-! ### ints -/
def MulOk (i j : Int) : Prop := CMul i j ∨ CMulW i j
def oAdd : O2 := fun x y k => match x, y with
  | .int i, .int j => k (.int (i + j))
  | _, _ => False
def oSub : O2 := fun x y k => match x, y with
  | .int i, .int j => k (.int (i - j))
  | _, _ => False
def oMul : O2 := fun x y k => match x, y with
  | .int i, .int j => MulOk i j ∧ k (.int (i * j))
  | _, _ => False
def oDiv : O2 := fun x y k => match x, y with
  | .int i, .int j => CDivW i j ∧ k (.int (i / j))
  | _, _ => False
/-- // by a number of any sign -/
def oDivN : O2 := fun x y k => match x, y with
  | .int i, .int j => CDivN i j ∧ k (.int (i.fdiv j))
  | _, _ => False
def oMod : O2 := fun x y k => match x, y with
  | .int i, .int j => 0 < j ∧ k (.int (i % j))
  | _, _ => False
def oModN : O2 := fun x y k => match x, y with
  | .int i, .int j => j ≠ 0 ∧ k (.int (i.fmod j))
  | _, _ => False
def oPow : O2 := fun x y k => match x, y with
  | .int i, .int j => CPow i j ∧ k (.int (i ^ j.toNat))
  | _, _ => False
def oNeg : O1 := fun x k => match x with
  | .int i => k (.int (-i))
  | _ => False
def oLt : O2 := fun x y k => match x, y with
  | .int i, .int j => k (.bl (decide (i < j)))
  | _, _ => False
def oLe : O2 := fun x y k => match x, y with
  | .int i, .int j => k (.bl (decide (i ≤ j)))
  | _, _ => False
def oGt : O2 := fun x y k => match x, y with
  | .int i, .int j => k (.bl (decide (j < i)))
  | _, _ => False
def oGe : O2 := fun x y k => match x, y with
  | .int i, .int j => k (.bl (decide (j ≤ i)))
  | _, _ => False
/-- == of two ints, two texts, two truth values -/
def oEq : O2 := fun x y k => match x, y with
  | .int i, .int j => k (.bl (decide (i = j)))
  | .str i, .str j => k (.bl (decide (i = j)))
  | .bl i, .bl j => k (.bl (decide (i = j)))
  | _, _ => False
def oNe : O2 := fun x y k => match x, y with
  | .int i, .int j => k (.bl (!decide (i = j)))
  | .str i, .str j => k (.bl (!decide (i = j)))
  | .bl i, .bl j => k (.bl (!decide (i = j)))
  | _, _ => False
def isNon : D → Bool
  | .non => true
  | _ => false
def oIsN : O2 := fun x y k => match y with
  | .non => k (.bl (isNon x))
  | _ => False
def oNotN : O2 := fun x y k => match y with
  | .non => k (.bl (!isNon x))
  | _ => False
def oIsB : O2 := fun x y k => match x, y with
  | .bl i, .bl j => k (.bl (decide (i = j)))
  | _, _ => False
def oNotB : O2 := fun x y k => match x, y with
  | .bl i, .bl j => k (.bl (!decide (i = j)))
  | _, _ => False
theorem two_int {C : Int → Int → Prop} {g : Int → Int → Int} {o : O2} (h : ∀ x y k, o x y k → ∃ i j, x = .int i ∧ y = .int j ∧ C i j ∧ k (.int (g i j))) : Op2 X (rI C fun i j => .int (g i j)) o :=
  fun F0 B F H σ E v u x y k Q r p1 p2 ho q => by
    obtain ⟨i, j, rfl, rfl, c, hk⟩ := h x y k ho
    exact ⟨i, j, rep_int p1, rep_int p2, c, q _ F H _ (Same.refl F) r (.int _) hk⟩
theorem two_int0 {g : Int → Int → Int} {o : O2} (h : ∀ x y k, o x y k → ∃ i j, x = .int i ∧ y = .int j ∧ k (.int (g i j))) : Op2 X (rI0 fun i j => .int (g i j)) o :=
  fun F0 B F H σ E v u x y k Q r p1 p2 ho q => by
    obtain ⟨i, j, rfl, rfl, hk⟩ := h x y k ho
    exact ⟨i, j, rep_int p1, rep_int p2, q _ F H _ (Same.refl F) r (.int _) hk⟩
theorem two_cmp {g : Int → Int → Bool} {o : O2} (h : ∀ x y k, o x y k → ∃ i j, x = .int i ∧ y = .int j ∧ k (.bl (g i j))) : Op2 X (rI0 fun i j => .bl (g i j)) o :=
  fun F0 B F H σ E v u x y k Q r p1 p2 ho q => by
    obtain ⟨i, j, rfl, rfl, hk⟩ := h x y k ho
    exact ⟨i, j, rep_int p1, rep_int p2, q _ F H _ (Same.refl F) r (.bl _) hk⟩
theorem o2_add : Op2 X (rI0 fun i j => .int (i + j)) oAdd := two_int0 (g := fun i j => i + j) fun x y k h => by
  cases x <;> cases y <;> first | exact ⟨_, _, rfl, rfl, h⟩ | exact h.elim
theorem o2_sub : Op2 X (rI0 fun i j => .int (i - j)) oSub := two_int0 (g := fun i j => i - j) fun x y k h => by
  cases x <;> cases y <;> first | exact ⟨_, _, rfl, rfl, h⟩ | exact h.elim
theorem op_mulA : OpR X (binaryOp .Mult) (rI MulOk fun i j => .int (i * j)) := fun pins s σ H x y v u Q I rx ry h => by
  obtain ⟨i, j, rfl, rfl, c, q⟩ := h
  rcases c with c | c
  · exact op_mul pins s σ H _ _ v u Q I rx ry ⟨i, j, rfl, rfl, c, q⟩
  · exact op_mulW pins s σ H _ _ v u Q I rx ry ⟨i, j, rfl, rfl, c, q⟩
theorem o2_mul : Op2 X (rI MulOk fun i j => .int (i * j)) oMul := two_int (g := fun i j => i * j) fun x y k h => by
  cases x <;> cases y <;> first | exact ⟨_, _, rfl, rfl, h⟩ | exact h.elim
theorem o2_div : Op2 X (rI CDivW fun i j => .int (i / j)) oDiv := two_int (g := fun i j => i / j) fun x y k h => by
  cases x <;> cases y <;> first | exact ⟨_, _, rfl, rfl, h⟩ | exact h.elim
theorem o2_divN : Op2 X (rI CDivN fun i j => .int (i.fdiv j)) oDivN := two_int (g := fun i j => i.fdiv j) fun x y k h => by
  cases x <;> cases y <;> first | exact ⟨_, _, rfl, rfl, h⟩ | exact h.elim
theorem o2_mod : Op2 X (rI (fun _ j => 0 < j) fun i j => .int (i % j)) oMod := two_int (g := fun i j => i % j) fun x y k h => by
  cases x <;> cases y <;> first | exact ⟨_, _, rfl, rfl, h⟩ | exact h.elim
theorem o2_modN : Op2 X (rI (fun _ j => j ≠ 0) fun i j => .int (i.fmod j)) oModN := two_int (g := fun i j => i.fmod j) fun x y k h => by
  cases x <;> cases y <;> first | exact ⟨_, _, rfl, rfl, h⟩ | exact h.elim
theorem o2_pow : Op2 X (rI CPow fun i j => .int (i ^ j.toNat)) oPow := two_int (g := fun i j => i ^ j.toNat) fun x y k h => by
  cases x <;> cases y <;> first | exact ⟨_, _, rfl, rfl, h⟩ | exact h.elim
theorem o2_lt : Op2 X (rI0 fun i j => .bl (decide (i < j))) oLt := two_cmp (g := fun i j => decide (i < j)) fun x y k h => by
  cases x <;> cases y <;> first | exact ⟨_, _, rfl, rfl, h⟩ | exact h.elim
theorem o2_le : Op2 X (rI0 fun i j => .bl (decide (i ≤ j))) oLe := two_cmp (g := fun i j => decide (i ≤ j)) fun x y k h => by
  cases x <;> cases y <;> first | exact ⟨_, _, rfl, rfl, h⟩ | exact h.elim
theorem o2_gt : Op2 X (rI0 fun i j => .bl (decide (j < i))) oGt := two_cmp (g := fun i j => decide (j < i)) fun x y k h => by
  cases x <;> cases y <;> first | exact ⟨_, _, rfl, rfl, h⟩ | exact h.elim
theorem o2_ge : Op2 X (rI0 fun i j => .bl (decide (j ≤ i))) oGe := two_cmp (g := fun i j => decide (j ≤ i)) fun x y k h => by
  cases x <;> cases y <;> first | exact ⟨_, _, rfl, rfl, h⟩ | exact h.elim
theorem o1_neg : Op1 X (rU fun i => .int (-i)) oNeg := fun F0 B F H σ E v x k Q r p h q => by
  cases x <;> first | exact ⟨_, rep_int p, q _ F H _ (Same.refl F) r (.int _) h⟩ | exact h.elim
theorem decI {i j : Int} : decide (V.int i = V.int j) = decide (i = j) := by simp
theorem decB {i j : Bool} : decide (V.bl i = V.bl j) = decide (i = j) := by simp
theorem decS {i j : Str} : decide (V.str i = V.str j) = decide (i = j) := by simp
theorem o2_eq : Op2 X rEq oEq := fun F0 B F H σ E v u x y k Q r p1 p2 h q => by
  cases x <;> cases y <;> first | exact h.elim | skip
  · rw [rep_bl p1, rep_bl p2]; refine ⟨rfl, q _ F H _ (Same.refl F) r (.bl _) ?_⟩; rw [decB]; exact h
  · rw [rep_int p1, rep_int p2]; refine ⟨rfl, q _ F H _ (Same.refl F) r (.bl _) ?_⟩; rw [decI]; exact h
  · rw [rep_str p1, rep_str p2]; refine ⟨rfl, q _ F H _ (Same.refl F) r (.bl _) ?_⟩; rw [decS]; exact h
theorem o2_ne : Op2 X rNe oNe := fun F0 B F H σ E v u x y k Q r p1 p2 h q => by
  cases x <;> cases y <;> first | exact h.elim | skip
  · rw [rep_bl p1, rep_bl p2]; refine ⟨rfl, q _ F H _ (Same.refl F) r (.bl _) ?_⟩; rw [decB]; exact h
  · rw [rep_int p1, rep_int p2]; refine ⟨rfl, q _ F H _ (Same.refl F) r (.bl _) ?_⟩; rw [decI]; exact h
  · rw [rep_str p1, rep_str p2]; refine ⟨rfl, q _ F H _ (Same.refl F) r (.bl _) ?_⟩; rw [decS]; exact h
theorem rep_isNon {K : PySem.W.Frag} {F : Hp} {v : V} {x : D} (h : Rep K F v x) : decide (v = .non) = isNon x := by cases h <;> rfl
theorem o2_isN : Op2 X (fun x y H Q => y = .non ∧ Q (.bl (decide (x = .non))) H) oIsN := fun F0 B F H σ E v u x y k Q r p1 p2 h q => by
  cases y <;> first | exact h.elim | skip
  refine ⟨rep_non p2, ?_⟩
  rw [rep_isNon p1]
  exact q _ F H _ (Same.refl F) r (.bl _) h
theorem o2_notN : Op2 X (fun x y H Q => y = .non ∧ Q (.bl (!decide (x = .non))) H) oNotN := fun F0 B F H σ E v u x y k Q r p1 p2 h q => by
  cases y <;> first | exact h.elim | skip
  refine ⟨rep_non p2, ?_⟩
  rw [rep_isNon p1]
  exact q _ F H _ (Same.refl F) r (.bl _) h
theorem o2_isB : Op2 X rIsB oIsB := fun F0 B F H σ E v u x y k Q r p1 p2 h q => by
  cases x <;> cases y <;> first | exact h.elim | exact ⟨_, _, rep_bl p1, rep_bl p2, q _ F H _ (Same.refl F) r (.bl _) h⟩
theorem o2_notB : Op2 X rNotB oNotB := fun F0 B F H σ E v u x y k Q r p1 p2 h q => by
  cases x <;> cases y <;> first | exact h.elim | exact ⟨_, _, rep_bl p1, rep_bl p2, q _ F H _ (Same.refl F) r (.bl _) h⟩
end
end TQ

namespace TQ
open PySem PySem.Spec PyProof.Rows L2
theorem szL {n : Nat} (h : n ≤ 1000000) : n ≤ sizeLine := Nat.le_trans h (by decide)
theorem szLt {n : Nat} (h : n < 1000000) : n < sizeLine := Nat.lt_of_lt_of_le h (by decide)
section
variable {X : Cx} {e : Expr} {es : List Expr} {t : TV} {ta : TAr} {pos : Pos}
/-! ### argument lists, displays -/
def aNil : TAr := fun E R => R [] E
def aCons (t : TV) (u : TAr) : TAr := fun E R => t E fun x E1 => u E1 fun xs E2 => R (x :: xs) E2
theorem par_nil : PAr X [] aNil := fun F0 B => PA.imp pa_nil fun σ H Q ⟨F, E, R, rp, ht, k⟩ => k [] F H [] E (Same.refl F) rp .nil ht
theorem par_cons {u : TAr} (ha : PV X e t) (hr : PAr X es u) (hs : starEach (e :: es) X.env = (false, eval e X.env) :: starEach es X.env := by rfl) : PAr X (e :: es) (aCons t u) := fun F0 B => PA.imp (pa_cons (ha F0 B) (hr F0 B) hs) fun σ H Q ⟨F, E, R, rp, ht, k⟩ =>
  ⟨F, E, _, rp, ht, fun v F1 H1 x E1 s1 r1 p1 h1 => ⟨F1, E1, _, r1, h1, fun vs F2 H2 xs E2 s2 r2 p2 h2 => k (v :: vs) F2 H2 (x :: xs) E2 (s1.trans s2) r2 (.cons (p1.mono s2) p2) h2⟩⟩
theorem pkr_nil : PKr X [] aNil := fun F0 B => PK.imp pk_nil fun σ H Q ⟨F, E, R, rp, ht, k⟩ => k [] F H [] E (Same.refl F) rp .nil ht
theorem pkr_cons {u : TAr} {nm : Option Str} {kpos : Pos} {kws : List Keyword} (ha : PV X e t) (hr : PKr X kws u) : PKr X (⟨nm, e, kpos⟩ :: kws) (aCons t u) := fun F0 B => PK.imp (pk_cons (ha F0 B) (hr F0 B)) fun σ H Q ⟨F, E, R, rp, ht, k⟩ =>
  ⟨F, E, _, rp, ht, fun v F1 H1 x E1 s1 r1 p1 h1 => ⟨F1, E1, _, r1, h1, fun vs F2 H2 xs E2 s2 r2 p2 h2 => k (v :: vs) F2 H2 (x :: xs) E2 (s1.trans s2) r2 (.cons (p1.mono s2) p2) h2⟩⟩
def tTu (t : TAr) : TV := fun E R => t E fun xs E1 => xs.length ≤ 1000000 ∧ R (.tup xs) E1
def tLi (t : TAr) : TV := fun E R => t E fun xs E1 => xs.length ≤ 1000000 ∧ R (.lst xs) E1
theorem pv_tup {x1} (h : PAr X es ta) : PV X (.Tuple es x1 pos) (tTu ta) := fun F0 B => PE.imp (pe_tup (h F0 B)) fun σ H Q ⟨F, E, R, rp, ht, k⟩ =>
  ⟨F, E, _, rp, ht, fun vs F1 H1 xs E1 s1 r1 p1 h1 => ⟨szL (p1.length ▸ h1.1), fun p hp => k (.ref p) _ _ _ E1 (s1.trans (same_upd (none_of_same r1.sF hp))) (r1.new hp) (.tup (SqT.of upd_same) (p1.mono (same_upd (none_of_same r1.sF hp)))) h1.2⟩⟩
theorem pf_lst (h : PAr X es ta) : PF X (.List es pos) (tLi ta) := fun F0 B => PE.imp (pe_lst (h F0 B)) fun σ H Q ⟨F, E, R, rp, ht, k⟩ =>
  ⟨F, E, _, rp, ht, fun vs F1 H1 xs E1 s1 r1 p1 h1 => ⟨szL (p1.length ▸ h1.1), fun p hp => k (.ref p) _ _ _ E1 s1 (r1.newO hp) (r1.frO hp (o := .lst vs) (x := .lst xs) p1) h1.2⟩⟩
theorem pv_lst (h : PAr X es ta) : PV X (.List es pos) (tLi ta) := pv_of (pf_lst h)

/-! ### what a def promises -/
abbrev FS := List D → (D → Prop) → Prop
abbrev MS := D → List D → (D → D → Prop) → Prop
def spF (K : PySem.W.Frag) (S : FS) : Sp := fun vs H Q _ => ∃ F ds R, Same F H ∧ Reps K F vs ds ∧ S ds R ∧
  ∀ v F' H' x, Same F F' → Same H H' → Same F' H' → (∀ a, F a = none → F' a ≠ none → H a = none) → Rep K F' v x → R x → Q v H'
/-- the first argument is a list (a dict) of the caller's own, which the def may change -/
def spM (K : PySem.W.Frag) (S : MS) : Sp := fun vs H Q _ => ∃ a vs' F x ho ds R, vs = .ref a :: vs' ∧ Same F H ∧ F a = none ∧ H a = some ho ∧ HOR K F ho x ∧ Reps K F vs' ds ∧ S x ds R ∧
  ∀ v F' H' z ho' x', Same F F' → (∀ b o, b ≠ a → H b = some o → H' b = some o) → Same F' H' → (∀ b, F b = none → F' b ≠ none → H b = none) → H' a = some ho' → HOR K F' ho' x' → Rep K F' v z → R z x' → Q v H'
/-- the def hands back a new list of its own -/
def spN (K : PySem.W.Frag) (S : FS) : Sp := fun vs H Q _ => ∃ F ds R, Same F H ∧ Reps K F vs ds ∧ S ds R ∧
  ∀ a F' H' ho x, Same F F' → Same H H' → Same F' H' → (∀ a, F a = none → F' a ≠ none → H a = none) → F' a = none → H a = none → H' a = some ho → HOR K F' ho x → R x → Q (.ref a) H'
def KwB (fd : FuncData) (ps : List Str) : Prop := ∀ (s : Shared) (ws : List Value), ws.length = ps.length → BindsTo s fd ⟨[], ps.zip ws⟩ (ps.zip ws)
/-- a def of the text that may be called by its name -/
structure Cal (P : Program) (w : World) (K : PySem.W.Frag) (mg : Str → Option Value) (base : Heap) (k : Nat) (x : Str) (ps : List Str) (sp : Sp) : Prop where
  ex : ∃ f fd, FnOk P w K mg base CX0 k f fd ps sp ∧ Binds K fd ps [] ∧ KwB fd ps ∧ PySem.W.keepIn K (.ref f) = true ∧ mg x = some (.ref f)
theorem Cal.mono {P : Program} {w : World} {K : PySem.W.Frag} {mg : Str → Option Value} {base : Heap} {k j : Nat} {x : Str} {ps : List Str} {sp : Sp} (c : Cal P w K mg base k x ps sp) (h : k ≤ j) : Cal P w K mg base j x ps sp :=
  let ⟨f, fd, a, b⟩ := c.ex
  ⟨f, fd, a.mono h, b⟩
def tCl (S : FS) (ta : TAr) : TV := fun E R => ta E fun ds E1 => S ds fun z => R z E1
theorem call_up {S : FS} {F0 B : Hp} (σ : L2.St) (H : Hp) (Q : VK) (q : upV X.K F0 B (tCl S ta) σ H Q) : tCall (spF X.K S) [] E0 (upA X.K F0 B ta) σ H Q := by
  obtain ⟨F, E, R, rp, ht, k⟩ := q
  refine ⟨F, E, _, rp, ht, fun vs F1 H1 ds E1 s1 r1 p1 h1 => ?_⟩
  show spF X.K S (vs ++ []) H1 Q E0
  rw [List.append_nil]
  exact ⟨F1, ds, _, r1.sF, p1, h1, fun v F' H' x eF eH eS nw p hR => k v F' H' x E1 (s1.trans eF) (r1.grow eF eH eS nw) p hR⟩
theorem pv_call {S : FS} {k : Nat} {x : Str} {ps : List Str} {p : Pos} (C : Cal X.prog X.w X.K X.mg X.base k x ps (spF X.K S)) (hr : Room k X.A) (ha : PAr X (e :: es) ta) (hg : Gl X x := by rfl) (hdb : (x == ("__debug__" : Str)) = false := by decide)
    (he : starEach (e :: es) X.env = (false, eval e X.env) :: starEach es X.env := by rfl) (hpl : (backTo pos (starEach es X.env)).any (·.1) = false := by rfl) : PV X (.Call (.Name x p) (e :: es) [] pos) (tCl S ta) := fun F0 B => by
  obtain ⟨f, fd, G, b, _, kp, m⟩ := C.ex
  exact PE.imp (pe_call G hr hg m kp b .nil pass0 (ha F0 B) hdb he hpl) call_up
/-- f(a = .., b = ..), all parameters by their names, in their order -/
theorem pv_callK {S : FS} {k : Nat} {x : Str} {ps : List Str} {p : Pos} {kws : List Keyword} (C : Cal X.prog X.w X.K X.mg X.base k x ps (spF X.K S)) (hr : Room k X.A) (ha : PKr X kws ta) (hg : Gl X x := by rfl)
    (hall : (backToKw pos (keywordEach kws X.env)).all (·.1.isSome) = true := by rfl) (hks : (backToKw pos (keywordEach kws X.env)).filterMap (·.1) = ps := by rfl) (hdb : (x == ("__debug__" : Str)) = false := by decide)
    (hpl : ((backTo pos (starEach [] X.env)).any (·.1) || (backToKw pos (keywordEach kws X.env)).any (·.1.isNone)) = false := by rfl) : PV X (.Call (.Name x p) [] kws pos) (tCl S ta) := fun F0 B => by
  obtain ⟨f, fd, G, _, b, kp, m⟩ := C.ex
  refine PE.imp (t := tCall (spF X.K S) [] E0 (upA X.K F0 B ta)) ⟨fun pins s σ H Q I h => ?_⟩ call_up
  refine wpAny_Call_Name_kw (ld_glob I hg m ?_ hdb)
  refine PySem.W.callWith_KW0 (h₀ := X.base) I.ok.mod.kin kp hall (thn ((ha F0 B).run pos pins s σ H _ I h) fun ws s1 ⟨zs, H1, I1, rz, q⟩ => ⟨I1.kIn, ?_⟩) hpl
  rw [hks, List.append_nil] at *
  have hl : ws.length = ps.length := by rw [← rz.length]; exact G.len _ _ _ _ q
  show wpAny _ _ (call (.ref f) [] (ps.zip ws)) _ _ _
  refine wpAny_call (codeAny_mono (G.run X.A X.stack s1 H1 ⟨[], ps.zip ws⟩ ws zs Q E0 hr I1.env0 (b s1 ws hl) rz q) fun r s' hq => ?_)
  cases r with
  | error e => exact pass0 pins σ H1 s1 e s' I1 hq
  | ok fl =>
    cases fl with
    | ret u => exact I1.after hq
    | next => exact False.elim hq
    | brk => exact False.elim hq
    | cont => exact False.elim hq
theorem pf_callN {S : FS} {k : Nat} {x : Str} {ps : List Str} {p : Pos} (C : Cal X.prog X.w X.K X.mg X.base k x ps (spN X.K S)) (hr : Room k X.A) (ha : PAr X (e :: es) ta) (hg : Gl X x := by rfl) (hdb : (x == ("__debug__" : Str)) = false := by decide)
    (he : starEach (e :: es) X.env = (false, eval e X.env) :: starEach es X.env := by rfl) (hpl : (backTo pos (starEach es X.env)).any (·.1) = false := by rfl) : PF X (.Call (.Name x p) (e :: es) [] pos) (tCl S ta) := fun F0 B => by
  obtain ⟨f, fd, G, b, _, kp, m⟩ := C.ex
  refine PE.imp (pe_call G hr hg m kp b .nil pass0 (ha F0 B) hdb he hpl) fun σ H Q ⟨F, E, R, rp, ht, k⟩ => ?_
  refine ⟨F, E, _, rp, ht, fun vs F1 H1 ds E1 s1 r1 p1 h1 => ?_⟩
  show spN X.K S (vs ++ []) H1 Q E0
  rw [List.append_nil]
  refine ⟨F1, ds, _, r1.sF, p1, h1, fun a F' H' ho x eF eH eS nw n1 n2 h2 hh hR => k (.ref a) F' H' x E1 (s1.trans eF) (r1.grow eF eH eS nw) ⟨a, ho, rfl, n1, none_of_same r1.sB n2, h2, hh, fun i y ey q => ?_⟩ hR⟩
  obtain ⟨b, hb, g1, g2, g3, g4, g5⟩ := r1.ow i y ey
  rw [q] at g1; cases g1
  rw [n2] at g4; cases g4
/-- a call that may change the list of one's own at slot i, handed over first -/
def tClM (i : Nat) (S : MS) (ta : TAr) : TV := fun E R => match gt E i with
  | .o _ => ta E fun ds E1 => match gt E1 i with
    | .o x => S x ds fun z x' => R z (pt E1 i (.o x'))
    | _ => False
  | _ => False
theorem Rp.callM {K : PySem.W.Frag} {F0 B F F' H H' : Hp} {σ : L2.St} {E : SE} {i : Nat} {x x' : D} {a : Addr} {ho' : HO} (r : Rp K F0 B F H σ E) (e : E[i]? = some (.o x)) (g : σ[i]? = some (some (.ref a)))
    (eF : Same F F') (eH : ∀ b o, b ≠ a → H b = some o → H' b = some o) (eS : Same F' H') (nw : ∀ b, F b = none → F' b ≠ none → H b = none) (h' : H' a = some ho') (hh : HOR K F' ho' x') : Rp K F0 B F' H' σ (E.set i (.o x')) := by
  obtain ⟨a', ho, g1, g2, g3, g4, g5⟩ := r.ow i x e
  rw [g] at g1; cases g1
  have r1 : Rp K F0 B F H σ (E.set i .no) := r.weak (by simp) fun j s q => by
    rcases getset q with ⟨_, q, _⟩ | ⟨_, q⟩
    · exact .inl q
    · exact .inr q
  have nF : F' a = none := by
    cases q : F' a with
    | none => rfl
    | some u =>
      have := nw a g2 (by rw [q]; simp)
      rw [this] at g4; cases g4
  refine ⟨r.s0.trans eF, fun b o hb => ?_, eS, fun b h0 h1 => ?_, by simp [r.ln], fun j y q => ?_, fun j y q => ?_, fun j k y z c e1 e2 e3 e4 => ?_⟩
  · have : b ≠ a := by rintro rfl; rw [g3] at hb; cases hb
    exact eH b o this (r.sB b o hb)
  · cases q : F b with
    | some o => exact r.nw b h0 (by rw [q]; simp)
    | none => exact none_of_same r.sB (nw b q h1)
  · rcases getset q with ⟨_, q, _⟩ | ⟨n, q⟩
    · cases q
    · obtain ⟨v, k1, k2⟩ := r.fz j y q; exact ⟨v, k1, k2.mono eF⟩
  · rcases getset q with ⟨rfl, q, _⟩ | ⟨n, q⟩
    · cases q; exact ⟨a, ho', g, nF, g3, h', hh⟩
    · obtain ⟨c, hc, k1, k2, k3, k4, k5⟩ := r.ow j y q
      have : c ≠ a := by rintro rfl; exact n (r.dj j i y x _ q e k1 g)
      refine ⟨c, hc, k1, ?_, k3, eH _ _ this k4, k5.mono eF⟩
      cases q : F' c with
      | none => rfl
      | some u =>
        have := nw c k2 (by rw [q]; simp)
        rw [this] at k4; cases k4
  · have f : ∀ {j : Nat} {z : D}, (E.set i (.o x'))[j]? = some (.o z) → ∃ z' : D, E[j]? = some (.o z') := fun {j z} q => by
      rcases getset q with ⟨rfl, _, _⟩ | ⟨_, q⟩
      · exact ⟨x, e⟩
      · exact ⟨z, q⟩
    obtain ⟨z', e1⟩ := f e1
    obtain ⟨w', e2⟩ := f e2
    exact r.dj j k z' w' c e1 e2 e3 e4
theorem pv_callM {S : MS} {k : Nat} {x : Str} {ps : List Str} {p p2 : Pos} {y : Str} (i : Nat) (C : Cal X.prog X.w X.K X.mg X.base k x ps (spM X.K S)) (hr : Room k X.A) (ha : PAr X es ta) (hN : X.N[i]? = some y := by rfl)
    (hv : Vis X.env.scope y := by first | exact Or.inl rfl | exact Or.inr (Or.inl rfl) | exact Or.inr (Or.inr rfl)) (hg : Gl X x := by rfl) (hdb : (x == ("__debug__" : Str)) = false := by decide) (hd : (y == ("__debug__" : Str)) = false := by decide)
    (hcd : (y == ("__classdict__" : Str)) = false := by decide) (he : starEach (.Name y p2 :: es) X.env = (false, eval (.Name y p2) X.env) :: starEach es X.env := by rfl) (hpl : (backTo pos (starEach es X.env)).any (·.1) = false := by rfl) :
    PV X (.Call (.Name x p) (.Name y p2 :: es) [] pos) (tClM i S ta) := fun F0 B => by
  obtain ⟨f, fd, G, b, _, kp, m⟩ := C.ex
  refine PE.imp (pe_call G hr hg m kp b .nil pass0 (pa_cons (pe_var hN hv hd hcd) (ha F0 B) he) hdb he hpl) fun σ H Q ⟨F, E, R, rp, ht, k⟩ => ?_
  unfold tClM at ht
  split at ht
  · rename_i x0 q0
    obtain ⟨a, ho, g1, g2, g3, g4, g5⟩ := rp.ow i x0 (gt_o q0)
    refine ⟨.ref a, g1, F, E, _, rp, ht, fun vs F1 H1 ds E1 s1 r1 p1 h1 => ?_⟩
    split at h1
    · rename_i x1 q1
      have e1 := gt_o q1
      obtain ⟨a', ho', k1, k2, k3, k4, k5⟩ := r1.ow i x1 e1
      rw [g1] at k1; cases k1
      show spM X.K S ((V.ref a :: vs) ++ []) H1 Q E0
      rw [List.append_nil]
      refine ⟨a, vs, F1, x1, ho', ds, _, rfl, r1.sF, k2, k4, k5, p1, h1, fun v F' H' z ho2 x' eF eH eS nw h' hh p hR => ?_⟩
      rw [pt_set] at hR
      exact k v F' H' z _ (s1.trans eF) (r1.callM e1 g1 eF eH eS nw h' hh) p hR
    · exact h1.elim
  · exact ht.elim

/-! ### built-ins -/
abbrev OA := List D → (D → Prop) → Prop
def CalB (X : Cx) (r : List V → Hp → VK → Prop) (o : OA) : Prop := ∀ F0 B F H σ E vs xs (k : D → Prop) (Q : VK), Rp X.K F0 B F H σ E → Reps X.K F vs xs → o xs k →
  (∀ w F' H' z, Same F F' → Rp X.K F0 B F' H' σ E → Rep X.K F' w z → k z → Q w H') → r vs H Q
def tBl (o : OA) (ta : TAr) : TV := fun E R => ta E fun xs E1 => o xs fun z => R z E1
theorem blt_up {r : List V → Hp → VK → Prop} {o : OA} (h : CalB X r o) {F0 B : Hp} (σ : L2.St) (H : Hp) (Q : VK) (q : upV X.K F0 B (tBl o ta) σ H Q) : tCB r (upA X.K F0 B ta) σ H Q := by
  obtain ⟨F, E, R, rp, ht, k⟩ := q
  exact ⟨F, E, _, rp, ht, fun vs F1 H1 xs E1 s1 r1 p1 h1 => h F0 B F1 H1 σ E1 vs xs _ Q r1 p1 h1 fun w F' H' z s2 r2 p2 hz => k w F' H' z E1 (s1.trans s2) r2 p2 hz⟩
theorem pv_blt {r : List V → Hp → VK → Prop} {o : OA} {x : Str} {p : Pos} {id : String} (hc : CallR X (.builtin id) r) (h : CalB X r o) (hm : X.mg x = none) (hv : bootBuiltins x = some (.builtin id)) (ha : PAr X (e :: es) ta) (hg : Gl X x := by rfl)
    (hn : x ≠ "__name__" := by decide) (hdb : (x == ("__debug__" : Str)) = false := by decide)
    (he : starEach (e :: es) X.env = (false, eval e X.env) :: starEach es X.env := by rfl) (hpl : (backTo pos (starEach es X.env)).any (·.1) = false := by rfl) : PV X (.Call (.Name x p) (e :: es) [] pos) (tBl o ta) :=
  fun F0 B => PE.imp (pe_callB hc hg hm hv (ha F0 B) hn hdb he hpl) (blt_up h)
theorem pv_blty {r : List V → Hp → VK → Prop} {o : OA} {x : Str} {p : Pos} {T : String} (hc : CallR X (.type T) r) (h : CalB X r o) (hm : X.mg x = none) (hv : bootBuiltins x = some (.type T)) (ha : PAr X (e :: es) ta) (hg : Gl X x := by rfl)
    (hn : x ≠ "__name__" := by decide) (hdb : (x == ("__debug__" : Str)) = false := by decide)
    (he : starEach (e :: es) X.env = (false, eval e X.env) :: starEach es X.env := by rfl) (hpl : (backTo pos (starEach es X.env)).any (·.1) = false := by rfl) : PV X (.Call (.Name x p) (e :: es) [] pos) (tBl o ta) :=
  fun F0 B => PE.imp (pe_callTy hc hg hm hv (ha F0 B) hn hdb he hpl) (blt_up h)
theorem reps1 {K : PySem.W.Frag} {F : Hp} {vs : List V} {x : D} (h : Reps K F vs [x]) : ∃ v, vs = [v] ∧ Rep K F v x := by
  cases h with
  | cons a r => cases r; exact ⟨_, rfl, a⟩
theorem reps2 {K : PySem.W.Frag} {F : Hp} {vs : List V} {x y : D} (h : Reps K F vs [x, y]) : ∃ v u, vs = [v, u] ∧ Rep K F v x ∧ Rep K F u y := by
  cases h with
  | cons a r => cases r with
    | cons b r => cases r; exact ⟨_, _, rfl, a, b⟩
def oAbs : OA := fun xs k => match xs with
  | [.int i] => k (.int (if i < 0 then -i else i))
  | _ => False
def oInt1 : OA := fun xs k => match xs with
  | [.int i] => k (.int i)
  | [.bl b] => k (.int (if b then 1 else 0))
  | _ => False
def oMax2 : OA := fun xs k => match xs with
  | [.int i, .int j] => k (.int (if j > i then j else i))
  | _ => False
def oMin2 : OA := fun xs k => match xs with
  | [.int i, .int j] => k (.int (if j < i then j else i))
  | _ => False
def oLen : OA := fun xs k => match xs with
  | [.lst ds] => k (.int ds.length)
  | [.tup ds] => k (.int ds.length)
  | _ => False
def oAll : OA := fun xs k => match xs with
  | [.lst ds] => ∃ bs : List Bool, ds = bs.map D.bl ∧ k (.bl (bs.all id))
  | _ => False
def oAny : OA := fun xs k => match xs with
  | [.lst ds] => ∃ bs : List Bool, ds = bs.map D.bl ∧ k (.bl (bs.any id))
  | _ => False
def oTuple : OA := fun xs k => match xs with
  | [.lst ds] => k (.tup ds)
  | [.tup ds] => k (.tup ds)
  | _ => False
def oList : OA := fun xs k => match xs with
  | [.lst ds] => k (.lst ds)
  | [.tup ds] => k (.lst ds)
  | _ => False
theorem rep_lst {K : PySem.W.Frag} {F : Hp} {v : V} {ds : List D} (h : Rep K F v (.lst ds)) : ∃ a vs, v = .ref a ∧ SqL K F a vs ∧ Reps K F vs ds := by
  cases h with
  | lst a b => exact ⟨_, _, rfl, a, b⟩
theorem rep_tup {K : PySem.W.Frag} {F : Hp} {v : V} {ds : List D} (h : Rep K F v (.tup ds)) : ∃ a vs, v = .ref a ∧ SqT K F a vs ∧ Reps K F vs ds := by
  cases h with
  | tup a b => exact ⟨_, _, rfl, a, b⟩
theorem b_abs : CalB X (fun xs H Q => ∃ i, xs = [.int i] ∧ Q (.int (if i < 0 then -i else i)) H) oAbs := fun F0 B F H σ E vs xs k Q r p h q => by
  unfold oAbs at h; split at h
  · obtain ⟨v, rfl, pv⟩ := reps1 p
    exact ⟨_, by rw [rep_int pv], q _ F H _ (Same.refl F) r (.int _) h⟩
  · exact h.elim
theorem b_int1 : CalB X (fun xs H Q => (∃ i, xs = [.int i] ∧ Q (.int i) H) ∨ ∃ k, xs = [.bl k] ∧ Q (.int (if k then 1 else 0)) H) oInt1 := fun F0 B F H σ E vs xs k Q r p h q => by
  unfold oInt1 at h; split at h
  · obtain ⟨v, rfl, pv⟩ := reps1 p
    exact .inl ⟨_, by rw [rep_int pv], q _ F H _ (Same.refl F) r (.int _) h⟩
  · obtain ⟨v, rfl, pv⟩ := reps1 p
    exact .inr ⟨_, by rw [rep_bl pv], q _ F H _ (Same.refl F) r (.int _) h⟩
  · exact h.elim
theorem b_max2 : CalB X (fun xs H Q => ∃ i j, xs = [.int i, .int j] ∧ Q (.int (if j > i then j else i)) H) oMax2 := fun F0 B F H σ E vs xs k Q r p h q => by
  unfold oMax2 at h; split at h
  · obtain ⟨v, u, rfl, pv, pu⟩ := reps2 p
    exact ⟨_, _, by rw [rep_int pv, rep_int pu], q _ F H _ (Same.refl F) r (.int _) h⟩
  · exact h.elim
theorem b_min2 : CalB X (fun xs H Q => ∃ i j, xs = [.int i, .int j] ∧ Q (.int (if j < i then j else i)) H) oMin2 := fun F0 B F H σ E vs xs k Q r p h q => by
  unfold oMin2 at h; split at h
  · obtain ⟨v, u, rfl, pv, pu⟩ := reps2 p
    exact ⟨_, _, by rw [rep_int pv, rep_int pu], q _ F H _ (Same.refl F) r (.int _) h⟩
  · exact h.elim
theorem b_len : CalB X (fun xs H Q => ∃ p ys, xs = [.ref p] ∧ (SqL X.K H p ys ∨ SqT X.K H p ys) ∧ Q (.int ys.length) H) oLen := fun F0 B F H σ E vs xs k Q r p h q => by
  unfold oLen at h; split at h
  · obtain ⟨v, rfl, pv⟩ := reps1 p
    obtain ⟨a, ws, rfl, h1, h2⟩ := rep_lst pv
    exact ⟨a, ws, rfl, .inl (sqL_mono r.sF h1), by rw [h2.length]; exact q _ F H _ (Same.refl F) r (.int _) h⟩
  · obtain ⟨v, rfl, pv⟩ := reps1 p
    obtain ⟨a, ws, rfl, h1, h2⟩ := rep_tup pv
    exact ⟨a, ws, rfl, .inr (sqT_mono r.sF h1), by rw [h2.length]; exact q _ F H _ (Same.refl F) r (.int _) h⟩
  · exact h.elim
theorem b_all : CalB X (rAll X.K) oAll := fun F0 B F H σ E vs xs k Q r p h q => by
  unfold oAll at h; split at h
  · obtain ⟨v, rfl, pv⟩ := reps1 p
    obtain ⟨a, ws, rfl, h1, h2⟩ := rep_lst pv
    obtain ⟨bs, rfl, h⟩ := h
    rw [Reps.bls h2] at h1
    exact ⟨a, bs, rfl, sqL_mono r.sF h1, q _ F H _ (Same.refl F) r (.bl _) h⟩
  · exact h.elim
theorem b_any : CalB X (rAny X.K) oAny := fun F0 B F H σ E vs xs k Q r p h q => by
  unfold oAny at h; split at h
  · obtain ⟨v, rfl, pv⟩ := reps1 p
    obtain ⟨a, ws, rfl, h1, h2⟩ := rep_lst pv
    obtain ⟨bs, rfl, h⟩ := h
    rw [Reps.bls h2] at h1
    exact ⟨a, bs, rfl, sqL_mono r.sF h1, q _ F H _ (Same.refl F) r (.bl _) h⟩
  · exact h.elim
theorem b_tuple : CalB X (fun xs H Q => ∃ p ys, xs = [.ref p] ∧ ((SqL X.K H p ys ∧ ∀ l, H l = none → Q (.ref l) (upd H l (.tup ys))) ∨ (SqT X.K H p ys ∧ Q (.ref p) H))) oTuple := fun F0 B F H σ E vs xs k Q r p h q => by
  unfold oTuple at h; split at h
  · obtain ⟨v, rfl, pv⟩ := reps1 p
    obtain ⟨a, ws, rfl, h1, h2⟩ := rep_lst pv
    exact ⟨a, ws, rfl, .inl ⟨sqL_mono r.sF h1, fun l hl => q _ _ _ _ (same_upd (none_of_same r.sF hl)) (r.new hl) (.tup (SqT.of upd_same) (h2.mono (same_upd (none_of_same r.sF hl)))) h⟩⟩
  · obtain ⟨v, rfl, pv⟩ := reps1 p
    obtain ⟨a, ws, rfl, h1, h2⟩ := rep_tup pv
    exact ⟨a, ws, rfl, .inr ⟨sqT_mono r.sF h1, q _ F H _ (Same.refl F) r (.tup h1 h2) h⟩⟩
  · exact h.elim
theorem pf_list {x : Str} {p : Pos} {a : Expr} (hm : X.mg x = none) (hv : bootBuiltins x = some (.type "list")) (ha : PAr X [a] ta) (hg : Gl X x := by rfl)
    (hn : x ≠ "__name__" := by decide) (hdb : (x == ("__debug__" : Str)) = false := by decide)
    (he : starEach (a :: []) X.env = (false, eval a X.env) :: starEach [] X.env := by rfl) (hpl : (backTo pos (starEach [] X.env)).any (·.1) = false := by rfl) : PF X (.Call (.Name x p) [a] [] pos) (tBl oList ta) :=
  fun F0 B => PE.imp (pe_callTy call_list_of hg hm hv (ha F0 B) hn hdb he hpl) fun σ H Q ⟨F, E, R, rp, ht, k⟩ => ⟨F, E, _, rp, ht, fun vs F1 H1 xs E1 s1 r1 p1 h => by
    unfold oList at h; split at h
    · obtain ⟨v, rfl, pv⟩ := reps1 p1
      obtain ⟨a, ws, rfl, h1, h2⟩ := rep_lst pv
      exact ⟨a, ws, rfl, .inl (sqL_mono r1.sF h1), fun l hl => k _ F1 _ _ E1 s1 (r1.newO hl) (r1.frO hl (o := .lst ws) (x := .lst _) h2) h⟩
    · obtain ⟨v, rfl, pv⟩ := reps1 p1
      obtain ⟨a, ws, rfl, h1, h2⟩ := rep_tup pv
      exact ⟨a, ws, rfl, .inr (sqT_mono r1.sF h1), fun l hl => k _ F1 _ _ E1 s1 (r1.newO hl) (r1.frO hl (o := .lst ws) (x := .lst _) h2) h⟩
    · exact h.elim⟩

/-! ### subscripts -/
def oIx : O2 := fun x y k => match x, y with
  | .lst ds, .int i => match atI ds i with
    | some z => k z
    | none => False
  | .tup ds, .int i => match atI ds i with
    | some z => k z
    | none => False
  | _, _ => False
theorem atI_rep {K : PySem.W.Frag} {F : Hp} {vs : List V} {ds : List D} {i : Int} {z : D} (p : Reps K F vs ds) (h : atI ds i = some z) : ∃ v, atI vs i = some v ∧ Rep K F v z := by
  unfold atI at h ⊢
  rw [p.length]
  cases e : ixN ds.length i with
  | none => rw [e] at h; cases h
  | some j =>
    rw [e] at h
    obtain ⟨v, h1, h2⟩ := p.get (i := j) h
    exact ⟨v, h1, h2⟩
theorem o2_ix : Op2 X (fun x y H Q => rIxL X.K x y H Q ∨ rIxT X.K x y H Q) oIx := fun F0 B F H σ E v u x y k Q r p1 p2 h q => by
  unfold oIx at h; split at h
  · split at h
    · rename_i e
      obtain ⟨a, ws, rfl, h1, h2⟩ := rep_lst p1
      obtain ⟨v, g1, g2⟩ := atI_rep h2 e
      exact .inl ⟨a, ws, _, v, rfl, rep_int p2, sqL_mono r.sF h1, g1, q v F H _ (Same.refl F) r g2 h⟩
    · exact h.elim
  · split at h
    · rename_i e
      obtain ⟨a, ws, rfl, h1, h2⟩ := rep_tup p1
      obtain ⟨v, g1, g2⟩ := atI_rep h2 e
      exact .inr ⟨a, ws, _, v, rfl, rep_int p2, sqT_mono r.sF h1, g1, q v F H _ (Same.refl F) r g2 h⟩
    · exact h.elim
  · exact h.elim
theorem pv_ix {a b : Expr} {ta tb : TV} (ha : PV X a ta) (hb : PV X b tb) (hs : PlainIx b := by intro _ _; rfl) : PV X (.Subscript a b pos) (tBin oIx ta tb) := fun F0 B => PE.imp (pe_ix (IxR.or ix_list ix_tup) (ha F0 B) (hb F0 B) hs) (bin_up o2_ix)
/-- the items that a name holds, whether of one's own or not -/
def seqS : Sl → Option (List D)
  | .o (.lst ds) => some ds
  | .d (.lst ds) => some ds
  | .d (.tup ds) => some ds
  | _ => none
theorem Rp.seqS {K : PySem.W.Frag} {F0 B F H : Hp} {σ : L2.St} {E : SE} {i : Nat} {ds : List D} (r : Rp K F0 B F H σ E) (h : seqS (gt E i) = some ds) : ∃ a vs, σ[i]? = some (some (.ref a)) ∧ (SqL K H a vs ∨ SqT K H a vs) ∧ Reps K F vs ds := by
  unfold TQ.seqS at h
  split at h
  · rename_i ds' e
    cases h
    obtain ⟨a, ho, g1, g2, g3, g4, g5⟩ := r.ow i _ (gt_o e)
    cases ho <;> simp only [HOR] at g5
    exact ⟨a, _, g1, .inl (SqL.of g4), g5⟩
  · rename_i ds' e
    cases h
    obtain ⟨v, g1, g2⟩ := r.fz i _ (gt_d e)
    obtain ⟨a, ws, rfl, h1, h2⟩ := rep_lst g2
    exact ⟨a, ws, g1, .inl (sqL_mono r.sF h1), h2⟩
  · rename_i ds' e
    cases h
    obtain ⟨v, g1, g2⟩ := r.fz i _ (gt_d e)
    obtain ⟨a, ws, rfl, h1, h2⟩ := rep_tup g2
    exact ⟨a, ws, g1, .inr (sqT_mono r.sF h1), h2⟩
  · cases h
/-- name[..] -/
def tIxN (i : Nat) (t : TV) : TV := fun E R => t E fun y E1 => match seqS (gt E i), seqS (gt E1 i), y with
  | some _, some ds, .int j => match atI ds j with
    | some z => R z E1
    | none => False
  | _, _, _ => False
theorem upV_seq {K : PySem.W.Frag} {F0 B F H : Hp} {σ : L2.St} {E : SE} {i : Nat} {ds : List D} (r : Rp K F0 B F H σ E) (h : seqS (gt E i) = some ds) : True := trivial
def tSeen (i : Nat) (t : TV) : TV := fun E R => match seqS (gt E i) with
  | some _ => tIxN i t E R
  | none => False
theorem pv_ixN (i : Nat) {y : Str} {p2 : Pos} {b : Expr} {tb : TV} (hb : PV X b tb) (hN : X.N[i]? = some y := by rfl) (hv : Vis X.env.scope y := by first | exact Or.inl rfl | exact Or.inr (Or.inl rfl) | exact Or.inr (Or.inr rfl))
    (hs : PlainIx b := by intro _ _; rfl) (hd : (y == ("__debug__" : Str)) = false := by decide) (hcd : (y == ("__classdict__" : Str)) = false := by decide) : PV X (.Subscript (.Name y p2) b pos) (tSeen i tb) := fun F0 B =>
  PE.imp (pe_ix (IxR.or ix_list ix_tup) (pe_var hN hv hd hcd) (hb F0 B) hs) fun σ H Q ⟨F, E, R, rp, ht, k⟩ => by
    unfold tSeen at ht; split at ht
    · rename_i ds0 e0
      obtain ⟨a, vs0, g1, g2, g3⟩ := rp.seqS e0
      refine ⟨.ref a, g1, F, E, _, rp, ht, fun u F1 H1 y E1 s1 r1 p1 h1 => ?_⟩
      split at h1
      · rename_i ds j e1 e2
        split at h1
        · rename_i z ez
          obtain ⟨a', vs, k1, k2, k3⟩ := r1.seqS e2
          rw [g1] at k1; cases k1
          obtain ⟨w, q1, q2⟩ := atI_rep k3 ez
          rcases k2 with k2 | k2
          · exact .inl ⟨a, vs, j, w, rfl, rep_int p1, k2, q1, k w F1 H1 z E1 s1 r1 q2 h1⟩
          · exact .inr ⟨a, vs, j, w, rfl, rep_int p1, k2, q1, k w F1 H1 z E1 s1 r1 q2 h1⟩
        · exact h1.elim
      · exact h1.elim
    · exact ht.elim
/-- len(name) -/
def tLenN (i : Nat) : TV := fun E R => match seqS (gt E i) with
  | some ds => R (.int ds.length) E
  | none => False
theorem pv_lenN (i : Nat) {x y : Str} {p p2 : Pos} (hm : X.mg x = none) (hv' : bootBuiltins x = some (.builtin "len")) (hN : X.N[i]? = some y := by rfl) (hv : Vis X.env.scope y := by first | exact Or.inl rfl | exact Or.inr (Or.inl rfl) | exact Or.inr (Or.inr rfl)) (hg : Gl X x := by rfl)
    (hn : x ≠ "__name__" := by decide) (hdb : (x == ("__debug__" : Str)) = false := by decide) (hd : (y == ("__debug__" : Str)) = false := by decide) (hcd : (y == ("__classdict__" : Str)) = false := by decide)
    (he : starEach (.Name y p2 :: []) X.env = (false, eval (.Name y p2) X.env) :: starEach [] X.env := by rfl) (hpl : (backTo pos (starEach [] X.env)).any (·.1) = false := by rfl) : PV X (.Call (.Name x p) [.Name y p2] [] pos) (tLenN i) := fun F0 B =>
  PE.imp (pe_callB call_len_seq hg hm hv' (pa_cons (pe_var hN hv hd hcd) pa_nil he) hn hdb he hpl) fun σ H Q ⟨F, E, R, rp, ht, k⟩ => by
    unfold tLenN at ht; split at ht
    · rename_i ds0 e0
      obtain ⟨a, vs, g1, g2, g3⟩ := rp.seqS e0
      exact ⟨.ref a, g1, a, vs, rfl, g2, by rw [g3.length]; exact k _ F H _ E (Same.refl F) rp (.int _) ht⟩
    · exact ht.elim
/-! slices of a list -/
abbrev TPa := SE → (Option Int → SE → Prop) → Prop
def upO (K : PySem.W.Frag) (F0 B : Hp) (t : TPa) : TO := fun σ H Q => ∃ F E R, Rp K F0 B F H σ E ∧ t E R ∧ ∀ o F' H' E', Same F F' → Rp K F0 B F' H' σ E' → R o E' → Q o H'
def POt (X : Cx) (e : Option Expr) (t : TPa) : Prop := ∀ F0 B, PO X e (upO X.K F0 B t)
def qNo : TPa := fun E R => R none E
def qSo (t : TV) : TPa := fun E R => t E fun x E1 => match x with
  | .int i => R (some i) E1
  | _ => False
theorem PO.imp {o : Option Expr} {t t' : TO} (h : PO X o t) (i : ∀ σ H Q, t' σ H Q → t σ H Q) : PO X o t' := ⟨fun pins s σ H Q I q => h.run pins s σ H Q I (i σ H Q q)⟩
theorem pot_none : POt X none qNo := fun F0 B => PO.imp po_none fun σ H Q ⟨F, E, R, rp, ht, k⟩ => k none F H E (Same.refl F) rp ht
theorem pot_some (h : PV X e t) : POt X (some e) (qSo t) := fun F0 B => PO.imp (po_some (h F0 B)) fun σ H Q ⟨F, E, R, rp, ht, k⟩ => ⟨F, E, _, rp, ht, fun v F1 H1 x E1 s1 r1 p1 h1 => by
  split at h1
  · exact ⟨_, rep_int p1, k _ F1 H1 E1 s1 r1 h1⟩
  · exact h1.elim⟩
/-- the items of xs[lo:hi] -/
def cutD (xs : List D) (lo hi : Option Int) : List D := (xs.drop (HT.sIx xs.length 0 lo)).take (HT.sIx xs.length xs.length hi - HT.sIx xs.length 0 lo)
theorem cut_rep {K : PySem.W.Frag} {F : Hp} {vs : List V} {ds : List D} (p : Reps K F vs ds) (lo hi : Option Int) : Reps K F (cutV vs lo hi) (cutD ds lo hi) := by
  unfold cutV cutD
  rw [p.length]
  exact (p.drop _).take _
def tSlc (t : TV) (lo hi : TPa) : TV := fun E R => t E fun x E1 => lo E1 fun l E2 => hi E2 fun h E3 => match x with
  | .lst ds => R (.lst (cutD ds l h)) E3
  | _ => False
theorem pf_slc {lo hi : Option Expr} {tl th : TPa} {p2 : Pos} (he : PV X e t) (hl : POt X lo tl) (hh : POt X hi th) : PF X (.Subscript e (.Slice lo hi none p2) pos) (tSlc t tl th) := fun F0 B =>
  PE.imp (pe_slice sl_list (he F0 B) (hl F0 B) (hh F0 B)) fun σ H Q ⟨F, E, R, rp, ht, k⟩ => ⟨F, E, _, rp, ht, fun v F1 H1 x E1 s1 r1 p1 h1 => ⟨F1, E1, _, r1, h1, fun l F2 H2 E2 s2 r2 h2 => ⟨F2, E2, _, r2, h2, fun h F3 H3 E3 s3 r3 h3 => by
    split at h3
    · obtain ⟨a, ws, rfl, g1, g2⟩ := rep_lst p1
      exact ⟨a, ws, rfl, sqL_mono ((s2.trans s3).trans r3.sF) g1, fun p hp => k _ F3 _ _ E3 ((s1.trans s2).trans s3) (r3.newO hp) (r3.frO hp (o := .lst _) (x := .lst _) (cut_rep (g2.mono (s2.trans s3)) l h)) h3⟩
    · exact h3.elim⟩⟩⟩
/-- xs[::-1] -/
def tRv (t : TV) : TV := fun E R => t E fun x E1 => match x with
  | .lst ds => R (.lst ds.reverse) E1
  | _ => False
theorem pf_rev {k : Nat} {p1 p2 p3 : Pos} (he : PV X e t) : PF X (.Subscript e (.Slice none none (some (.UnaryOp .USub (.Constant (.int 1) k p1) p2)) p3) pos) (tRv t) := fun F0 B =>
  PE.imp (pe_revL (he F0 B)) fun σ H Q ⟨F, E, R, rp, ht, k⟩ => ⟨F, E, _, rp, ht, fun v F1 H1 x E1 s1 r1 p1 h1 => by
    split at h1
    · obtain ⟨a, ws, rfl, g1, g2⟩ := rep_lst p1
      exact ⟨a, ws, rfl, sqL_mono r1.sF g1, fun p hp => k _ F1 _ _ E1 s1 (r1.newO hp) (r1.frO hp (o := .lst _) (x := .lst _) g2.reverse) h1⟩
    · exact h1.elim⟩
/-- xs + ys of lists -/
def tCat (t u : TV) : TV := fun E R => t E fun x E1 => u E1 fun y E2 => match x, y with
  | .lst a, .lst b => a.length + b.length ≤ 1000000 ∧ R (.lst (a ++ b)) E2
  | _, _ => False
end
end TQ

namespace TQ
open PySem PySem.Spec PyProof.Rows L2
section
variable {X : Cx} {e : Expr} {es : List Expr} {t : TV} {ta : TAr} {pos : Pos}
/-! ### list + list -/
def rCatS (K : PySem.W.Frag) : R2 := fun x y H Q => ∃ l b xs zs, x = .ref l ∧ y = .ref b ∧ SqL K H l xs ∧ SqL K H b zs ∧ xs.length + zs.length ≤ sizeLine ∧ ∀ p, H p = none → Q (.ref p) (upd H p (.lst (xs ++ zs)))
theorem op_catS : OpR X (binaryOp .Add) (rCatS X.K) := by
  intro pins s σ H x y v u Q I rx ry h
  obtain ⟨l, b, xs, zs, rfl, rfl, hH, hB, hz, q⟩ := h
  cases rx
  cases ry
  obtain ⟨its, r, hl, z⟩ := I.list hH
  obtain ⟨its2, r2, hl2, z2⟩ := I.list hB
  obtain ⟨⟨cls, dd, data, sl⟩, n, ho, hc, hdd, hd⟩ := hl
  obtain ⟨⟨cls2, dd2, data2, sl2⟩, n2, ho2, hc2, hdd2, hd2⟩ := hl2
  simp only at hc hd hc2 hd2
  subst hc hd hc2 hd2
  have l1 := r.length
  have l2 := r2.length
  have ea : its.toArray ++ its2.toArray = (its ++ its2).toArray := by simp
  refine concat_meets ⟨_, ho, rfl⟩ ⟨_, ho2, rfl⟩ noFill_list_add seq_list_add PySem.F.slot_list_add PySem.F.entry_list_add (PySem.F.args_list_add_2 _ _) (PyProof.Rows.list_addW l b its.toArray its2.toArray n n2 dd dd2 sl sl2 (by rw [List.size_toArray, List.size_toArray]; omega)) ⟨ho, ho2, ?_⟩
  rw [ea]
  exact ⟨.ref _, _, I.lnew (t' := s.toks) (r.append r2) (by rw [List.length_append]; omega), rfl, q _ I.fresh⟩
theorem pf_cat {a b : Expr} {u : TV} (ha : PV X a t) (hb : PV X b u) : PF X (.BinOp a .Add b pos) (tCat t u) := fun F0 B => PE.imp (pe_op op_catS (ha F0 B) (hb F0 B)) fun σ H Q ⟨F, E, R, rp, ht, k⟩ =>
  ⟨F, E, _, rp, ht, fun v F1 H1 x E1 s1 r1 p1 h1 => ⟨F1, E1, _, r1, h1, fun w F2 H2 y E2 s2 r2 p2 h2 => by
    split at h2
    · obtain ⟨a, ws, rfl, g1, g2⟩ := rep_lst p1
      obtain ⟨b, vs, rfl, k1, k2⟩ := rep_lst p2
      exact ⟨a, b, ws, vs, rfl, rfl, sqL_mono (s2.trans r2.sF) g1, sqL_mono r2.sF k1, by rw [g2.length, k2.length]; exact szL h2.1, fun p hp =>
        k _ F2 _ _ E2 (s1.trans s2) (r2.newO hp) (r2.frO hp (o := .lst _) (x := .lst _) ((g2.mono s2).append k2)) h2.2⟩
    · exact h2.elim⟩⟩
/-- ("a",) + t -/
def oCatT : O2 := fun x y k => match x, y with
  | .tup a, .tup b => a ≠ [] ∧ b ≠ [] ∧ a.length + b.length ≤ 1000000 ∧ k (.tup (a ++ b))
  | _, _ => False
theorem o2_catT : Op2 X (rCatT X.K) oCatT := fun F0 B F H σ E v u x y k Q r p1 p2 h q => by
  unfold oCatT at h; split at h
  · rename_i a b
    obtain ⟨n1, n2, l, h⟩ := h
    obtain ⟨a', ws, rfl, g1, g2⟩ := rep_tup p1
    obtain ⟨b', vs, rfl, k1, k2⟩ := rep_tup p2
    refine ⟨a', b', ws, vs, rfl, rfl, sqT_mono r.sF g1, sqT_mono r.sF k1, fun z => n1 ?_, by rw [g2.length, k2.length]; exact szL l, fun z => (n2 ?_).elim, fun _ p hp => ?_⟩
    · subst z; cases g2; rfl
    · subst z; cases k2; rfl
    · exact q _ _ _ _ (same_upd (none_of_same r.sF hp)) (r.new hp) (.tup (SqT.of upd_same) ((g2.append k2).mono (same_upd (none_of_same r.sF hp)))) h
  · exact h.elim
/-! ### targets -/
def gNm (i : Nat) : TGt := fun x E R => R (pt E i (.d x))
theorem agr_set {σ : L2.St} {i : Nat} {v : Option V} : Agr [i] σ (σ.set i v) := ⟨by simp, fun j h => by rw [List.getElem?_set_ne (fun z => h (by simp [z]))]⟩
theorem Agr.trans {ts us : List Nat} {σ1 σ2 σ3 : L2.St} (a : Agr ts σ1 σ2) (b : Agr us σ2 σ3) : Agr (ts ++ us) σ1 σ3 := ⟨b.1.trans a.1, fun i h => by
  rw [List.mem_append, not_or] at h
  rw [b.2 i h.2, a.2 i h.1]⟩
theorem pgt_name {x : Str} (i : Nat) (hN : X.N.Nodup) (hi : X.N[i]? = some x := by rfl) (hx : Loc X.env.scope x := by first | exact .inl rfl | exact .inr rfl) (hf : X.fn x = true ∨ X.env.scope.names.lookup x = some .local := by first | exact .inl rfl | exact .inr rfl) : PGt X (.Name x pos) [i] (gNm i) := fun F0 B =>
  PG.imp (pg_name hN hi hx hf) fun v σ H Q ⟨F, E, x, R, rp, p, ht, k⟩ => by
    unfold gNm at ht
    rw [pt_set] at ht
    exact k F H _ _ (Same.refl F) (rp.setD i p) agr_set ht
def gNl : TGts := fun xs E R => match xs with
  | [] => R E
  | _ => False
def gCn (t : TGt) (u : TGts) : TGts := fun xs E R => match xs with
  | x :: r => t x E fun E1 => u r E1 R
  | [] => False
theorem pgts_nil : PGts X [] [] gNl := fun F0 B => PGs.imp pgs_nil fun vs σ H Q ⟨F, E, xs, R, rp, p, ht, k⟩ => by
  unfold gNl at ht
  split at ht
  · cases p
    exact ⟨rfl, k F H σ E (Same.refl F) rp ⟨rfl, fun _ _ => rfl⟩ ht⟩
  · exact ht.elim
theorem pgts_cons {t : TGt} {u : TGts} {ts us : List Nat} (h1 : PGt X e ts t) (h2 : PGts X es us u) (hs : (assignEach (e :: es) X.env).map (·.2) = assign e X.env :: (assignEach es X.env).map (·.2) := by rfl) : PGts X (e :: es) (ts ++ us) (gCn t u) := fun F0 B =>
  PGs.imp (pgs_cons (h1 F0 B) (h2 F0 B) hs) fun vs σ H Q ⟨F, E, xs, R, rp, p, ht, k⟩ => by
    unfold gCn at ht
    split at ht
    · cases p with
      | cons pv pr => exact ⟨_, _, rfl, F, E, _, _, rp, pv, ht, fun F1 H1 σ1 E1 s1 r1 a1 h1 => ⟨F1, E1, _, _, r1, pr.mono s1, h1, fun F2 H2 σ2 E2 s2 r2 a2 h2 => k F2 H2 σ2 E2 (s1.trans s2) r2 (a1.trans a2) h2⟩⟩
    · exact ht.elim
def gTp (n : Nat) (t : TGts) : TGt := fun x E R => match x with
  | .tup ds => ds.length = n ∧ t ds E R
  | _ => False
theorem pgt_tup {k : Nat} {t : TGts} {ts : List Nat} {n : Nat} (hc : X.calm = true) (h : PGts X es ts t) (hn : (assignEach es X.env).length = n := by rfl) (hst : (assignEach es X.env).findIdx? (·.1) = none := by rfl) : PGt X (.Tuple es k pos) ts (gTp n t) := fun F0 B =>
  PG.imp (pg_tup hc (h F0 B) hn hst) fun v σ H Q ⟨F, E, x, R, rp, p, ht, k⟩ => by
    unfold gTp at ht
    split at ht
    · obtain ⟨a, ws, rfl, g1, g2⟩ := rep_tup p
      exact ⟨a, ws, rfl, sqT_mono rp.sF g1, g2.length.trans ht.1, F, E, _, R, rp, g2, ht.2, k⟩
    · exact ht.elim

/-! ### statements -/
variable {st : Stmt} {rest : List Stmt} {u1 u2 : TSt} {md : Md}
def sNx : TSt := fun N E => N.nx E
def sSq (t u : TSt) : TSt := fun N E => t { N with nx := u N } E
theorem pst_nil : PSts X md [] sNx := fun F0 B => PSs.imp pss_nil fun D σ H ⟨F, E, N, rp, ht, b⟩ => b.nx F H σ E (Same.refl F) rp .refl ht
theorem pst_cons (h1 : PSt X md st u1) (h2 : PSts X md rest u2) : PSts X md (st :: rest) (sSq u1 u2) := fun F0 B => PSs.imp (pss_cons (h1 F0 B) (h2 F0 B)) fun D σ H ⟨F, E, N, rp, ht, b⟩ =>
  ⟨F, E, { N with nx := u2 N }, rp, ht, ⟨fun F' H' σ' E' s r z h => ⟨F', E', N, r, h, b.mono s z⟩, b.rt, b.bk, b.ct⟩⟩
theorem pst_one (h1 : PSt X md st u1) : PSts X md [st] u1 := fun F0 B => pss_one (h1 F0 B)
def sBk : TSt := fun N E => N.bk E
def sCt : TSt := fun N E => N.ct E
theorem pst_break : PSt X md (.Break pos) sBk := fun F0 B => PS.imp ps_break fun D σ H ⟨F, E, N, rp, ht, b⟩ => b.bk F H σ E (Same.refl F) rp .refl ht
theorem pst_cont : PSt X md (.Continue pos) sCt := fun F0 B => PS.imp ps_continue fun D σ H ⟨F, E, N, rp, ht, b⟩ => b.ct F H σ E (Same.refl F) rp .refl ht
theorem pst_pass : PSt X md (.Pass pos) sNx := fun F0 B => PS.imp ps_pass fun D σ H ⟨F, E, N, rp, ht, b⟩ => b.nx F H σ E (Same.refl F) rp .refl ht
def sNever : TSt := fun _ _ => False
theorem pst_never : PSt X md st sNever := fun F0 B => PS.imp ps_never fun D σ H ⟨F, E, N, rp, ht, b⟩ => ht
def sIf (c : TB) (t u : TSt) : TSt := fun N E => c E fun b E1 => (b = true → t N E1) ∧ (b = false → u N E1)
theorem pst_if {c : Expr} {a b : List Stmt} {tc : TB} (hc : PTt X c tc) (ha : PSts X md a u1) (hb : PSts X md b u2) : PSt X md (.If c a b pos) (sIf tc u1 u2) := fun F0 B => PS.imp (ps_if (hc F0 B) (ha F0 B) (hb F0 B)) fun D σ H ⟨F, E, N, rp, ht, b⟩ =>
  ⟨F, E, _, rp, ht, fun c F1 H1 E1 s1 r1 h1 => by
    cases c with
    | true => exact ⟨F1, E1, N, r1, h1.1 rfl, b.mono s1 .refl⟩
    | false => exact ⟨F1, E1, N, r1, h1.2 rfl, b.mono s1 .refl⟩⟩
def sEx (t : TV) : TSt := fun N E => t E fun _ E1 => N.nx E1
theorem pst_expr (he : PV X e t) (hs : swapsWith e none pos.line X.env = pure false := by rfl) : PSt X md (.Expr e pos) (sEx t) := fun F0 B => PS.imp (ps_expr (he F0 B) hs) fun D σ H ⟨F, E, N, rp, ht, b⟩ =>
  ⟨F, E, _, rp, ht, fun v F1 H1 x E1 s1 r1 p1 h1 => b.nx F1 H1 σ E1 s1 r1 .refl h1⟩
def sRt (t : TV) : TSt := fun N E => t E fun x E1 => N.rt x E1
theorem pst_ret (he : PV X e t) (hm : md ≠ .n := by intro h; cases h) : PSt X md (.Return (some e) pos) (sRt t) := fun F0 B => PS.imp (ps_ret (he F0 B)) fun D σ H ⟨F, E, N, rp, ht, b⟩ =>
  ⟨F, E, _, rp, ht, fun v F1 H1 x E1 s1 r1 p1 h1 => b.rt v F1 H1 σ x E1 s1 r1 .refl (by cases md <;> first | exact p1 | exact absurd rfl hm) h1⟩
theorem pst_retN (he : PF X e t) : PSt X .n (.Return (some e) pos) (sRt t) := fun F0 B => PS.imp (ps_ret (he F0 B)) fun D σ H ⟨F, E, N, rp, ht, b⟩ =>
  ⟨F, E, _, rp, ht, fun v F1 H1 x E1 s1 r1 p1 h1 => b.rt v F1 H1 σ x E1 s1 r1 .refl p1 h1⟩
/-- name = value -/
def sAs (i : Nat) (t : TV) : TSt := fun N E => t E fun x E1 => N.nx (pt E1 i (.d x))
def sAo (i : Nat) (t : TV) : TSt := fun N E => t E fun x E1 => N.nx (pt E1 i (.o x))
theorem pst_set (i : Nat) {x : Str} {pos' : Pos} (hN : X.N.Nodup) (he : PV X e t) (hi : X.N[i]? = some x := by rfl) (hx : Loc X.env.scope x := by first | exact .inl rfl | exact .inr rfl) (hs : swapsWith e (some (.Name x pos')) pos.line X.env = pure false := by rfl)
    (hf : X.fn x = true ∨ X.env.scope.names.lookup x = some .local := by first | exact .inl rfl | exact .inr rfl) (h0 : ok0 md i = true := by rfl) : PSt X md (.Assign [.Name x pos'] e pos) (sAs i t) := fun F0 B => PS.imp (ps_set hN hi hx (he F0 B) hs hf) fun D σ H ⟨F, E, N, rp, ht, b⟩ =>
  ⟨F, E, _, rp, ht, fun v F1 H1 x E1 s1 r1 p1 h1 => b.nx F1 H1 _ _ s1 (r1.setD i p1) (.set h0) (by rw [← pt_set]; exact h1)⟩
theorem pst_setO (i : Nat) {x : Str} {pos' : Pos} (hN : X.N.Nodup) (he : PF X e t) (hi : X.N[i]? = some x := by rfl) (hx : Loc X.env.scope x := by first | exact .inl rfl | exact .inr rfl) (hs : swapsWith e (some (.Name x pos')) pos.line X.env = pure false := by rfl)
    (hf : X.fn x = true ∨ X.env.scope.names.lookup x = some .local := by first | exact .inl rfl | exact .inr rfl) (h0 : ok0 md i = true := by rfl) : PSt X md (.Assign [.Name x pos'] e pos) (sAo i t) := fun F0 B => PS.imp (ps_set hN hi hx (he F0 B) hs hf) fun D σ H ⟨F, E, N, rp, ht, b⟩ =>
  ⟨F, E, _, rp, ht, fun v F1 H1 x E1 s1 r1 p1 h1 => b.nx F1 H1 _ _ s1 (r1.setO i p1) (.set h0) (by rw [← pt_set]; exact h1)⟩
/-- target = value -/
def sAg (g : TGt) (t : TV) : TSt := fun N E => t E fun x E1 => g x E1 N.nx
theorem pst_asg {tg : Expr} {g : TGt} {ts : List Nat} (he : PV X e t) (hg : PGt X tg ts g) (hs : swapsWithSole [tg] e pos.line X.env = pure false := by rfl) (hw : swappedStores [tg] e X.env = pure none := by rfl)
    (h1 : (assignEach [tg] X.env).map (·.2) = [assign tg X.env] := by rfl) (h0 : ts.all (ok0 md) = true := by rfl) : PSt X md (.Assign [tg] e pos) (sAg g t) := fun F0 B => PS.imp (ps_asg (he F0 B) (hg F0 B) hs hw h1) fun D σ H ⟨F, E, N, rp, ht, b⟩ =>
  ⟨F, E, _, rp, ht, fun v F1 H1 x E1 s1 r1 p1 h1 => ⟨F1, E1, x, _, r1, p1, h1, fun F2 H2 σ2 E2 s2 r2 a2 h2 => b.nx F2 H2 σ2 E2 (s1.trans s2) r2 (.agr a2 h0) h2⟩⟩
/-- a, b = x, y, stored from the right -/
def sPr (i j : Nat) (ta : TAr) : TSt := fun N E => ta E fun xs E1 => match xs with
  | [x, y] => N.nx (pt (pt E1 j (.d y)) i (.d x))
  | _ => False
theorem pst_par (i j : Nat) {x y : Str} {a b : Expr} {px py pt' : Pos} {kt k2 pt2} (hc : X.calm = true) (hN : X.N.Nodup) (ha : PAr X [a, b] ta) (hw : swappedStores [.Tuple [.Name x px, .Name y py] kt pt'] (.Tuple [a, b] k2 pt2) X.env = pure (some [x, y]) := by rfl) (hij : i ≠ j := by decide) (hi : X.N[i]? = some x := by rfl) (hj : X.N[j]? = some y := by rfl)
    (hx : X.env.scope.names.lookup x = some .local := by rfl) (hy : X.env.scope.names.lookup y = some .local := by rfl)
    (hs : swapsWithSole [.Tuple [.Name x px, .Name y py] kt pt'] (.Tuple [a, b] k2 pt2) pos.line X.env = pure false := by rfl) (h0 : (ok0 md i && ok0 md j) = true := by rfl) :
    PSt X md (.Assign [.Tuple [.Name x px, .Name y py] kt pt'] (.Tuple [a, b] k2 pt2) pos) (sPr i j ta) := fun F0 B => PS.imp (ps_par hc hN hi hj hij hx hy (ha F0 B) hw hs) fun D σ H ⟨F, E, N, rp, ht, b⟩ =>
  ⟨F, E, _, rp, ht, fun vs F1 H1 xs E1 s1 r1 p1 h1 => by
    split at h1
    · obtain ⟨v, u, rfl, pv, pu⟩ := reps2 p1
      refine ⟨v, u, rfl, ?_⟩
      rw [pt_set, pt_set] at h1
      have r2 := (r1.setD j pu).setD i pv
      rw [List.set_comm _ _ hij.symm] at r2
      have h0 := Bool.and_eq_true_iff.mp h0
      exact b.nx F1 H1 _ _ s1 r2 (St0.trans (.set h0.1) (.set h0.2)) h1
    · exact h1.elim⟩
theorem reps3 {K : PySem.W.Frag} {F : Hp} {vs : List V} {x y z : D} (h : Reps K F vs [x, y, z]) : ∃ v u w, vs = [v, u, w] ∧ Rep K F v x ∧ Rep K F u y ∧ Rep K F w z := by
  cases h with
  | cons a r =>
    obtain ⟨v, u, rfl, b, c⟩ := reps2 r
    exact ⟨_, _, _, rfl, a, b, c⟩
def sPr3 (i j l : Nat) (ta : TAr) : TSt := fun N E => ta E fun xs E1 => match xs with
  | [x, y, z] => N.nx (pt (pt (pt E1 l (.d z)) j (.d y)) i (.d x))
  | _ => False
theorem pst_par3 (i j l : Nat) {x y z : Str} {a b c : Expr} {px py pz pt' : Pos} {kt k2 pt2} (hc : X.calm = true) (hN : X.N.Nodup) (ha : PAr X [a, b, c] ta) (hw : swappedStores [.Tuple [.Name x px, .Name y py, .Name z pz] kt pt'] (.Tuple [a, b, c] k2 pt2) X.env = pure (some [x, y, z]) := by rfl) (hij : i ≠ j := by decide) (hil : i ≠ l := by decide) (hjl : j ≠ l := by decide)
    (hi : X.N[i]? = some x := by rfl) (hj : X.N[j]? = some y := by rfl) (hl : X.N[l]? = some z := by rfl)
    (hx : X.env.scope.names.lookup x = some .local := by rfl) (hy : X.env.scope.names.lookup y = some .local := by rfl) (hz : X.env.scope.names.lookup z = some .local := by rfl)
    (hs : swapsWithSole [.Tuple [.Name x px, .Name y py, .Name z pz] kt pt'] (.Tuple [a, b, c] k2 pt2) pos.line X.env = pure false := by rfl) (h0 : (ok0 md i && ok0 md j && ok0 md l) = true := by rfl) :
    PSt X md (.Assign [.Tuple [.Name x px, .Name y py, .Name z pz] kt pt'] (.Tuple [a, b, c] k2 pt2) pos) (sPr3 i j l ta) := fun F0 B => PS.imp (ps_par3 hc hN hi hj hl hij hil hjl hx hy hz (ha F0 B) hw hs) fun D σ H ⟨F, E, N, rp, ht, b⟩ =>
  ⟨F, E, _, rp, ht, fun vs F1 H1 xs E1 s1 r1 p1 h1 => by
    split at h1
    · obtain ⟨v, u, w, rfl, pv, pu, pw⟩ := reps3 p1
      refine ⟨v, u, w, rfl, ?_⟩
      rw [pt_set, pt_set, pt_set] at h1
      have r2 := ((r1.setD l pw).setD j pu).setD i pv
      rw [List.set_comm _ _ hjl.symm, List.set_comm (l := (σ.set j (some u))) _ _ hil.symm, List.set_comm (l := σ) _ _ hij.symm] at r2
      have h0 := Bool.and_eq_true_iff.mp h0
      have h1' := Bool.and_eq_true_iff.mp h0.1
      exact b.nx F1 H1 _ _ s1 r2 (St0.trans (St0.trans (.set h1'.1) (.set h1'.2)) (.set h0.2)) h1
    · exact h1.elim⟩
/-- name.append(e) -/
def sAp (i : Nat) (t : TV) : TSt := fun N E => match gt E i with
  | .o (.lst _) => t E fun x E1 => match gt E1 i with
    | .o (.lst ds) => ds.length < 1000000 ∧ N.nx (pt E1 i (.o (.lst (ds ++ [x]))))
    | _ => False
  | _ => False
theorem own_lst {K : PySem.W.Frag} {F0 B F H : Hp} {σ : L2.St} {E : SE} {i : Nat} {ds : List D} (r : Rp K F0 B F H σ E) (h : gt E i = .o (.lst ds)) : ∃ a vs, σ[i]? = some (some (.ref a)) ∧ H a = some (.lst vs) ∧ Reps K F vs ds := by
  obtain ⟨a, ho, g1, g2, g3, g4, g5⟩ := r.ow i _ (gt_o h)
  cases ho <;> simp only [HOR] at g5
  exact ⟨a, _, g1, g4, g5⟩
theorem pst_app (i : Nat) {y : Str} {p2 apos : Pos} (he : PV X e t) (hN : X.N[i]? = some y := by rfl) (hv : Vis X.env.scope y := by first | exact Or.inl rfl | exact Or.inr (Or.inl rfl) | exact Or.inr (Or.inr rfl))
    (hs1 : starEach (e :: []) X.env = (false, eval e X.env) :: starEach [] X.env := by rfl) (hd : (y == ("__debug__" : Str)) = false := by decide) (hcd : (y == ("__classdict__" : Str)) = false := by decide) {cpos : Pos}
    (hp : ∀ {ta : TA}, PA X [e] ta → PE X (.Call (.Attribute (.Name y p2) "append" apos) [e] [] cpos) (tBM X.K "list" rAppend (tVar i) ta)) :
    PSt X md (.Expr (.Call (.Attribute (.Name y p2) "append" apos) [e] [] cpos) pos) (sAp i t) := fun F0 B =>
  PS.imp (ps_expr (hp (pa_cons (he F0 B) pa_nil hs1))) fun D σ H ⟨F, E, N, rp, ht, b⟩ => by
    unfold sAp at ht
    split at ht
    · rename_i ds0 e0
      obtain ⟨a, vs0, g1, g2, g3⟩ := own_lst rp e0
      refine ⟨.ref a, g1, .inl ⟨rfl, _, SqL.of g2⟩, F, E, _, rp, ht, fun v F1 H1 x E1 s1 r1 p1 h1 => ?_⟩
      split at h1
      · rename_i ds e1
        obtain ⟨a', vs, k1, k2, k3⟩ := own_lst r1 e1
        rw [g1] at k1; cases k1
        refine ⟨a, vs, v, rfl, rfl, k2, by rw [k3.length]; exact szLt h1.1, ?_⟩
        have r2 := r1.mutO (ho := .lst (vs ++ [v])) (x := .lst (ds ++ [x])) (gt_o e1) g1 (k3.snoc p1)
        rw [← pt_set] at r2
        exact b.nx F1 _ σ _ s1 r2 .refl h1.2
      · exact h1.elim
    · exact ht.elim
/-- name[idx] = e -/
def sSi (i : Nat) (t idx : TV) : TSt := fun N E => t E fun x E1 => idx E1 fun y E2 => match gt E1 i, gt E2 i, y with
  | .o (.lst _), .o (.lst ds), .int j => match ixN ds.length j with
    | some k => N.nx (pt E2 i (.o (.lst (ds.set k x))))
    | none => False
  | _, _, _ => False
def sSi0 (i : Nat) (t idx : TV) : TSt := fun N E => t E fun x E1 => match gt E1 i with
  | .o (.lst _) => idx E1 fun y E2 => match gt E2 i, y with
    | .o (.lst ds), .int j => match ixN ds.length j with
      | some k => N.nx (pt E2 i (.o (.lst (ds.set k x))))
      | none => False
    | _, _ => False
  | _ => False
theorem pst_setIx (i : Nat) {y : Str} {p2 p3 : Pos} {b : Expr} {tb : TV} (he : PV X e t) (hb : PV X b tb) (hN : X.N[i]? = some y := by rfl) (hv : Vis X.env.scope y := by first | exact Or.inl rfl | exact Or.inr (Or.inl rfl) | exact Or.inr (Or.inr rfl))
    (ha : ∀ v, assign (.Subscript (.Name y p2) b p3) X.env v = (do
      let ov ← holding [v] (eval (.Name y p2) X.env)
      let iv ← holding [v, ov] (eval b X.env)
      standAt p3
      holding [v, ov, iv] (setItem ov iv v)
      release [v, ov, iv] []) := by intro _; rfl)
    (hs : swapsWithSole [.Subscript (.Name y p2) b p3] e pos.line X.env = pure false := by rfl) (hw : swappedStores [.Subscript (.Name y p2) b p3] e X.env = pure none := by rfl)
    (h1 : (assignEach [.Subscript (.Name y p2) b p3] X.env).map (·.2) = [assign (.Subscript (.Name y p2) b p3) X.env] := by rfl)
    (hd : (y == ("__debug__" : Str)) = false := by decide) (hcd : (y == ("__classdict__" : Str)) = false := by decide) :
    PSt X md (.Assign [.Subscript (.Name y p2) b p3] e pos) (sSi0 i t tb) := fun F0 B => PS.imp (ps_asg (he F0 B) (pg_sub (pe_var hN hv hd hcd) (hb F0 B) set_list ha) hs hw h1) fun D σ H ⟨F, E, N, rp, ht, b⟩ =>
  ⟨F, E, _, rp, ht, fun v F1 H1 x E1 s1 r1 p1 h1 => by
    split at h1
    · rename_i ds0 e0
      obtain ⟨a, vs0, g1, g2, g3⟩ := own_lst r1 e0
      refine ⟨.ref a, g1, F1, E1, _, r1, h1, fun w F2 H2 y E2 s2 r2 p2 h2 => ?_⟩
      split at h2
      · rename_i ds j e1
        split at h2
        · rename_i k ek
          obtain ⟨a', vs, k1, k2, k3⟩ := own_lst r2 e1
          rw [g1] at k1; cases k1
          refine ⟨a, vs, j, k, rfl, rep_int p2, k2, by rw [k3.length]; exact ek, ?_⟩
          have r3 := r2.mutO (ho := .lst (vs.set k v)) (x := .lst (ds.set k x)) (gt_o e1) g1 (k3.set (p1.mono s2) k)
          rw [← pt_set] at r3
          exact b.nx F2 _ σ _ (s1.trans s2) r3 .refl h2
        · exact h2.elim
      · exact h2.elim
    · exact h1.elim⟩

/-! ### loops -/
def tWh (c : TB) (tb : TSt) : TSt := fun N E => ∃ W : Nat → SE → Prop, (∃ m, W m E) ∧ ∀ m E, W m E → c E fun b E1 =>
  (b = true → tb ⟨fun E' => ∃ m', m' < m ∧ W m' E', N.rt, N.nx, fun E' => ∃ m', m' < m ∧ W m' E'⟩ E1) ∧ (b = false → N.nx E1)
theorem pst_while {c : Expr} {body : List Stmt} {tc : TB} (hc : PTt X c tc) (hb : PSts X md body u1) (hp : PassesOwn (model X.prog X.w) X.A X.env X.xe := by exact PassesOwn.never) : PSt X md (.While c body [] pos) (tWh tc u1) := fun F0 B =>
  PS.imp (ps_while hp (hc F0 B) (hb F0 B)) fun D σ0 H ⟨F, E, N, rp, ⟨W, ⟨m, w0⟩, ht⟩, b⟩ =>
    ⟨fun m σ H => ∃ F1 E1, Same F F1 ∧ Rp X.K F0 B F1 H σ E1 ∧ St0 md σ0 σ ∧ W m E1, ⟨m, F, E, Same.refl F, rp, .refl, w0⟩, fun m σ H ⟨F1, E1, s1, r1, z1, w1⟩ => ⟨F1, E1, _, r1, ht m E1 w1, fun c F2 H2 E2 s2 r2 h2 => by
      cases c with
      | false => exact b.nx F2 H2 σ E2 (s1.trans s2) r2 z1 (h2.2 rfl)
      | true =>
        refine ⟨fun σ H => ∃ m', m' < m ∧ ∃ F1 E1, Same F F1 ∧ Rp X.K F0 B F1 H σ E1 ∧ St0 md σ0 σ ∧ W m' E1, fun _ _ z => z, F2, E2, _, r2, h2.1 rfl, ⟨fun F3 H3 σ3 E3 s3 r3 z3 ⟨m', l, w⟩ => ⟨m', l, F3, E3, (s1.trans s2).trans s3, r3, z1.trans z3, w⟩, fun v F3 H3 σ3 x E3 s3 r3 z3 => b.rt v F3 H3 σ3 x E3 ((s1.trans s2).trans s3) r3 (z1.trans z3),
          fun F3 H3 σ3 E3 s3 r3 z3 => b.nx F3 H3 σ3 E3 ((s1.trans s2).trans s3) r3 (z1.trans z3), fun F3 H3 σ3 E3 s3 r3 z3 ⟨m', l, w⟩ => ⟨m', l, F3, E3, (s1.trans s2).trans s3, r3, z1.trans z3, w⟩⟩⟩⟩⟩
structure Wk (K : PySem.W.Frag) (J : It) (F : Hp) (ds : List D) : Prop where
  go : ∀ i H F1 x, ds[i]? = some x → Same F F1 → Same F1 H → J.go i H ∧ ∀ v H2, J.yld i H v H2 → ∃ F2, Same F1 F2 ∧ Same H H2 ∧ Same F2 H2 ∧ (∀ a, F1 a = none → F2 a ≠ none → H a = none) ∧ Rep K F2 v x
  stop : ∀ H F1, Same F F1 → Same F1 H → J.stop ds.length H
def upI (K : PySem.W.Frag) (F0 B : Hp) (t : TIt) : TI := fun σ H R => ∃ F E R', Rp K F0 B F H σ E ∧ t E R' ∧ ∀ J F' H' ds E', Same F F' → Rp K F0 B F' H' σ E' → Wk K J F' ds → R' ds E' → R J H'
def PIt (X : Cx) (tg iter : Expr) (t : TIt) : Prop := ∀ F0 B, PI X tg iter (upI X.K F0 B t)
theorem PI.imp {tg iter : Expr} {t t' : TI} (h : PI X tg iter t) (i : ∀ σ H R, t' σ H R → t σ H R) : PI X tg iter t' := ⟨fun pins s σ H R I q => h.run pins s σ H R I (i σ H R q)⟩
def forR (g : TGt) (tb : TSt) : List D → TSt
  | [], N, E => N.nx E
  | x :: r, N, E => g x E fun E2 => tb ⟨fun E3 => forR g tb r N E3, N.rt, N.nx, fun E3 => forR g tb r N E3⟩ E2
def tFo (it : TIt) (g : TGt) (tb : TSt) : TSt := fun N E => it E fun ds E1 => forR g tb ds N E1
theorem pst_for {tg iter : Expr} {body : List Stmt} {it : TIt} {g : TGt} {ts : List Nat} (hc : X.calm = true) (hi : PIt X tg iter it) (hg : PGt X tg ts g) (hb : PSts X md body u1) (hp : PassesOwn (model X.prog X.w) X.A X.env X.xe := by exact PassesOwn.never)
    (hs : ∀ x, foldedSetIterable iter X.env x = pure x := by intro _; rfl) (h0 : ts.all (ok0 md) = true := by rfl) : PSt X md (.For tg iter body [] pos) (tFo it g u1) := fun F0 B =>
  PS.imp (ps_for hp hc (hi F0 B) (hg F0 B) (hb F0 B) hs) fun D σ0 H ⟨F, E, N, rp, ht, b⟩ => ⟨F, E, _, rp, ht, fun J F' H' ds E' s r wk hR =>
    ⟨fun i m σ H => m = ds.length - i ∧ i ≤ ds.length ∧ ∃ F1 E1, Same F' F1 ∧ Rp X.K F0 B F1 H σ E1 ∧ St0 md σ0 σ ∧ forR g u1 (ds.drop i) N E1, ⟨_, rfl, Nat.zero_le _, F', E', Same.refl F', r, .refl, by simpa using hR⟩, fun i m σ H ⟨em, hi, F1, E1, s1, r1, z0, h1⟩ => by
      rcases Nat.lt_or_ge i ds.length with l | l
      · obtain ⟨x, hx⟩ : ∃ x, ds[i]? = some x := ⟨_, List.getElem?_eq_getElem l⟩
        have ed : ds.drop i = x :: ds.drop (i + 1) := by
          rw [List.drop_eq_getElem_cons l]
          rw [List.getElem?_eq_getElem l] at hx
          cases hx
          rfl
        rw [ed] at h1
        obtain ⟨q1, q2⟩ := wk.go i H F1 x hx s1 r1.sF
        refine .inr ⟨q1, fun σ H => ∃ m', m' < m ∧ (m' = ds.length - (i + 1) ∧ i + 1 ≤ ds.length ∧ ∃ F1 E1, Same F' F1 ∧ Rp X.K F0 B F1 H σ E1 ∧ St0 md σ0 σ ∧ forR g u1 (ds.drop (i + 1)) N E1), fun _ _ z => z, fun v H2 hy => ?_⟩
        obtain ⟨F2, z1, z2, z3, z4, z5⟩ := q2 v H2 hy
        refine ⟨F2, E1, x, _, r1.grow z1 z2 z3 z4, z5, h1, fun F3 H3 σ3 E3 s3 r3 a3 h3 => ⟨F3, E3, _, r3, h3, ?_⟩⟩
        have sB := (s.trans (s1.trans (z1.trans s3)))
        have y3 : St0 md σ0 σ3 := z0.trans (.agr a3 h0)
        exact ⟨fun F4 H4 σ4 E4 s4 r4 y4 h4 => ⟨_, by omega, rfl, l, F4, E4, (s1.trans (z1.trans s3)).trans s4, r4, y3.trans y4, h4⟩, fun v F4 H4 σ4 x E4 s4 r4 y4 => b.rt v F4 H4 σ4 x E4 (sB.trans s4) r4 (y3.trans y4), fun F4 H4 σ4 E4 s4 r4 y4 => b.nx F4 H4 σ4 E4 (sB.trans s4) r4 (y3.trans y4),
          fun F4 H4 σ4 E4 s4 r4 y4 h4 => ⟨_, by omega, rfl, l, F4, E4, (s1.trans (z1.trans s3)).trans s4, r4, y3.trans y4, h4⟩⟩
      · have : i = ds.length := by omega
        subst this
        rw [List.drop_length] at h1
        exact .inl ⟨wk.stop H F1 s1 r1.sF, b.nx F1 H σ E1 (s.trans s1) r1 z0 h1⟩⟩⟩
/-! what is walked -/
def iLs (t : TV) : TIt := fun E R => t E fun x E1 => match x with
  | .lst ds => R ds E1
  | _ => False
def iTp (t : TV) : TIt := fun E R => t E fun x E1 => match x with
  | .tup ds => R ds E1
  | _ => False
theorem wk_list {K : PySem.W.Frag} {F : Hp} {a : Addr} {vs : List V} {ds : List D} (h1 : SqL K F a vs) (h2 : Reps K F vs ds) (inj : ∀ H ys, Same F H → SqL K H a ys → ys = vs) : Wk K (Itl K a) F ds where
  go := fun i H F1 x hx s1 sF => by
    obtain ⟨v, g1, g2⟩ := h2.get hx
    refine ⟨⟨vs, v, sqL_mono (s1.trans sF) h1, g1⟩, fun w H2 ⟨e, q⟩ => ?_⟩
    subst e
    have := q vs (sqL_mono (s1.trans sF) h1)
    rw [g1] at this
    cases this
    exact ⟨F1, Same.refl F1, Same.refl _, sF, fun a h h' => absurd h h', g2.mono s1⟩
  stop := fun H F1 s1 sF => ⟨vs, sqL_mono (s1.trans sF) h1, by rw [h2.length]; exact Nat.le_refl _⟩
theorem pit_list {tg l : Expr} (hl : PV X l t) : PIt X tg l (iLs t) := fun F0 B => PI.imp (pi_list (hl F0 B)) fun σ H Q ⟨F, E, R, rp, ht, k⟩ => ⟨F, E, _, rp, ht, fun v F1 H1 x E1 s1 r1 p1 h1 => by
  split at h1
  · obtain ⟨a, ws, rfl, g1, g2⟩ := rep_lst p1
    refine ⟨a, rfl, ⟨ws, sqL_mono r1.sF g1⟩, k _ F1 H1 _ E1 s1 r1 ?_ h1⟩
    exact {
      go := fun i H F1' x hx s1' sF => by
        obtain ⟨v, q1, q2⟩ := g2.get hx
        refine ⟨⟨ws, v, sqL_mono (s1'.trans sF) g1, q1⟩, fun w H2 ⟨e, q⟩ => ?_⟩
        subst e
        have := q ws (sqL_mono (s1'.trans sF) g1)
        rw [q1] at this
        cases this
        exact ⟨F1', Same.refl _, Same.refl _, sF, fun a h h' => absurd h h', q2.mono s1'⟩
      stop := fun H F1' s1' sF => ⟨ws, sqL_mono (s1'.trans sF) g1, by rw [g2.length]; exact Nat.le_refl _⟩ }
  · exact h1.elim⟩
theorem pit_tup {tg l : Expr} (hl : PV X l t) : PIt X tg l (iTp t) := fun F0 B => PI.imp (pi_tup (hl F0 B)) fun σ H Q ⟨F, E, R, rp, ht, k⟩ => ⟨F, E, _, rp, ht, fun v F1 H1 x E1 s1 r1 p1 h1 => by
  split at h1
  · obtain ⟨a, ws, rfl, g1, g2⟩ := rep_tup p1
    refine ⟨a, rfl, ⟨ws, sqT_mono r1.sF g1⟩, k _ F1 H1 _ E1 s1 r1 ?_ h1⟩
    exact {
      go := fun i H F1' x hx s1' sF => by
        obtain ⟨v, q1, q2⟩ := g2.get hx
        refine ⟨⟨ws, v, sqT_mono (s1'.trans sF) g1, q1⟩, fun w H2 ⟨e, q⟩ => ?_⟩
        subst e
        have := q ws (sqT_mono (s1'.trans sF) g1)
        rw [q1] at this
        cases this
        exact ⟨F1', Same.refl _, Same.refl _, sF, fun a h h' => absurd h h', q2.mono s1'⟩
      stop := fun H F1' s1' sF => ⟨ws, sqT_mono (s1'.trans sF) g1, by rw [g2.length]; exact Nat.le_refl _⟩ }
  · exact h1.elim⟩
/-- lo, lo + c, .., n of them -/
def rgD (lo c : Int) (n : Nat) : List D := (List.range n).map fun i => D.int (lo + (i : Nat) * c)
theorem rgD_get {lo c : Int} {n i : Nat} {x : D} (h : (rgD lo c n)[i]? = some x) : i < n ∧ x = .int (lo + (i : Nat) * c) := by
  unfold rgD at h
  rw [List.getElem?_map] at h
  cases e : (List.range n)[i]? with
  | none => rw [e] at h; cases h
  | some j =>
    rw [e] at h; cases h
    have l := (List.getElem?_eq_some_iff.mp e).1
    rw [List.length_range] at l
    rw [List.getElem?_range l] at e
    cases e
    exact ⟨l, rfl⟩
theorem rgD_len {lo c : Int} {n : Nat} : (rgD lo c n).length = n := by simp [rgD]
theorem wk_range {K : PySem.W.Frag} {F : Hp} {lo : Int} {n : Nat} : Wk K (Itr lo n) F (rgD lo 1 n) where
  go := fun i H F1 x hx s1 sF => by
    obtain ⟨l, rfl⟩ := rgD_get hx
    refine ⟨l, fun w H2 ⟨e, q⟩ => ?_⟩
    subst e; subst q
    refine ⟨F1, Same.refl _, Same.refl _, sF, fun a h h' => absurd h h', ?_⟩
    rw [Int.mul_one]
    exact .int _
  stop := fun H F1 s1 sF => by rw [rgD_len]; exact Nat.le_refl _
theorem wk_rangeC {K : PySem.W.Frag} {F : Hp} {lo c : Int} {n : Nat} : Wk K (Itc lo c n) F (rgD lo c n) where
  go := fun i H F1 x hx s1 sF => by
    obtain ⟨l, rfl⟩ := rgD_get hx
    refine ⟨l, fun w H2 ⟨e, q⟩ => ?_⟩
    subst e; subst q
    exact ⟨F1, Same.refl _, Same.refl _, sF, fun a h h' => absurd h h', .int _⟩
  stop := fun H F1 s1 sF => by rw [rgD_len]; exact Nat.le_refl _
def iR1 (ta : TAr) : TIt := fun E R => ta E fun xs E1 => match xs with
  | [.int j] => (-(2 ^ 62) ≤ j ∧ j < 2 ^ 62) ∧ R (rgD 0 1 j.toNat) E1
  | _ => False
def iR2 (ta : TAr) : TIt := fun E R => ta E fun xs E1 => match xs with
  | [.int i, .int j] => (-(2 ^ 62) ≤ i ∧ i < 2 ^ 62 ∧ -(2 ^ 62) ≤ j ∧ j < 2 ^ 62) ∧ R (rgD i 1 (j - i).toNat) E1
  | _ => False
def iR3 (ta : TAr) : TIt := fun E R => ta E fun xs E1 => match xs with
  | [.int i, .int j, .int c] => ∃ n, RgC i j c n ∧ R (rgD i c n) E1
  | _ => False
theorem pit_r1 {tg a : Expr} {p : Pos} (hm : X.mg "range" = none) (ha : PAr X [a] ta) (hg : Gl X "range" := by rfl) (hs : starEach [a] X.env = [(false, eval a X.env)] := by rfl) : PIt X tg (.Call (.Name "range" p) [a] [] pos) (iR1 ta) := fun F0 B => PI.imp (pi_range1 hg hm (ha F0 B) hs) fun σ H Q ⟨F, E, R, rp, ht, k⟩ =>
  ⟨F, E, _, rp, ht, fun vs F1 H1 xs E1 s1 r1 p1 h1 => by
    split at h1
    · obtain ⟨v, rfl, pv⟩ := reps1 p1
      exact ⟨_, by rw [rep_int pv], h1.1.1, h1.1.2, k _ F1 H1 _ E1 s1 r1 wk_range h1.2⟩
    · exact h1.elim⟩
theorem pit_r2 {tg a b : Expr} {p : Pos} (hm : X.mg "range" = none) (ha : PAr X [a, b] ta) (hg : Gl X "range" := by rfl) (hs : starEach [a, b] X.env = [(false, eval a X.env), (false, eval b X.env)] := by rfl) (hs2 : starEach [b] X.env = [(false, eval b X.env)] := by rfl) : PIt X tg (.Call (.Name "range" p) [a, b] [] pos) (iR2 ta) := fun F0 B => PI.imp (pi_range2 hg hm (ha F0 B) hs hs2) fun σ H Q ⟨F, E, R, rp, ht, k⟩ =>
  ⟨F, E, _, rp, ht, fun vs F1 H1 xs E1 s1 r1 p1 h1 => by
    split at h1
    · obtain ⟨v, u, rfl, pv, pu⟩ := reps2 p1
      exact ⟨_, _, by rw [rep_int pv, rep_int pu], h1.1, k _ F1 H1 _ E1 s1 r1 wk_range h1.2⟩
    · exact h1.elim⟩
theorem pit_r3 {tg a b c : Expr} {p : Pos} (hm : X.mg "range" = none) (ha : PAr X [a, b, c] ta) (hg : Gl X "range" := by rfl) (hs : starEach [a, b, c] X.env = (false, eval a X.env) :: starEach [b, c] X.env := by rfl) (hpl : (backTo pos (starEach [b, c] X.env)).any (·.1) = false := by rfl) : PIt X tg (.Call (.Name "range" p) [a, b, c] [] pos) (iR3 ta) := fun F0 B => PI.imp (pi_range3 hg hm (ha F0 B) hs hpl) fun σ H Q ⟨F, E, R, rp, ht, k⟩ =>
  ⟨F, E, _, rp, ht, fun vs F1 H1 xs E1 s1 r1 p1 h1 => by
    split at h1
    · obtain ⟨v, u, w, rfl, pv, pu, pw⟩ := reps3 p1
      obtain ⟨n, h1, h2⟩ := h1
      exact ⟨_, _, _, n, by rw [rep_int pv, rep_int pu, rep_int pw], h1, k _ F1 H1 _ E1 s1 r1 wk_rangeC h2⟩
    · exact h1.elim⟩
def enD (ds : List D) : List D := ds.zipIdx.map fun p => .tup [.int (p.2 : Nat), p.1]
def iEn (ta : TAr) : TIt := fun E R => ta E fun xs E1 => match xs with
  | [.lst ds] => R (enD ds) E1
  | _ => False
theorem enD_get {ds : List D} {i : Nat} {x : D} (h : (enD ds)[i]? = some x) : ∃ y, ds[i]? = some y ∧ x = .tup [.int (i : Nat), y] := by
  unfold enD at h
  rw [List.getElem?_map, List.getElem?_zipIdx] at h
  cases e : ds[i]? with
  | none => rw [e] at h; cases h
  | some y => rw [e] at h; cases h; exact ⟨y, rfl, by simp⟩
theorem pit_enum {a : Expr} {p tpos : Pos} {elts : List Expr} {kk : Nat} (hm : X.mg "enumerate" = none) (ha : PAr X [a] ta) (hg : Gl X "enumerate" := by rfl) (hs : starEach [a] X.env = [(false, eval a X.env)] := by rfl) : PIt X (.Tuple elts kk tpos) (.Call (.Name "enumerate" p) [a] [] pos) (iEn ta) := fun F0 B => PI.imp (pi_enum hg hm (ha F0 B) hs) fun σ H Q ⟨F, E, R, rp, ht, k⟩ =>
  ⟨F, E, _, rp, ht, fun vs F1 H1 xs E1 s1 r1 p1 h1 => by
    split at h1
    · obtain ⟨v, rfl, pv⟩ := reps1 p1
      obtain ⟨a, ws, rfl, g1, g2⟩ := rep_lst pv
      refine ⟨a, ws, rfl, sqL_mono r1.sF g1, k _ F1 H1 _ E1 s1 r1 ?_ h1⟩
      exact {
        go := fun i H F1' x hx s1' sF => by
          obtain ⟨y, hy, rfl⟩ := enD_get hx
          obtain ⟨v, q1, q2⟩ := g2.get hy
          refine ⟨⟨ws, v, sqL_mono (s1'.trans sF) g1, q1⟩, fun w H2 ⟨T, z, e1, hT, e2, q⟩ => ?_⟩
          subst e1; subst e2
          have := q ws (sqL_mono (s1'.trans sF) g1)
          rw [q1] at this
          cases this
          have sn := same_upd (o := HO.tup [V.int (i : Nat), v]) (none_of_same sF hT)
          refine ⟨_, sn, same_upd hT, same_upd2 sF, fun b h h' => ?_, .tup (SqT.of upd_same) (.cons (.int _) (.cons ((q2.mono s1').mono sn) .nil))⟩
          by_cases q : b = T
          · rw [q]; exact hT
          · rw [upd_ne q] at h'; exact absurd h h'
        stop := fun H F1' s1' sF => ⟨ws, sqL_mono (s1'.trans sF) g1, by rw [g2.length]; simp [enD]⟩ }
    · exact h1.elim⟩
def zpD (xs ys : List D) : List D := (xs.zip ys).map fun p => .tup [p.1, p.2]
def iZp (ta : TAr) : TIt := fun E R => ta E fun xs E1 => match xs with
  | [.lst a, .lst b] => R (zpD a b) E1
  | [.tup a, .tup b] => R (zpD a b) E1
  | _ => False
theorem zpD_get {xs ys : List D} {i : Nat} {x : D} (h : (zpD xs ys)[i]? = some x) : ∃ y z, xs[i]? = some y ∧ ys[i]? = some z ∧ x = .tup [y, z] := by
  unfold zpD at h
  rw [List.getElem?_map] at h
  cases e : (xs.zip ys)[i]? with
  | none => rw [e] at h; cases h
  | some p =>
    rw [e] at h; cases h
    rw [List.getElem?_zip_eq_some] at e
    exact ⟨_, _, e.1, e.2, rfl⟩
theorem pit_zip {a b : Expr} {p tpos : Pos} {elts : List Expr} {kk : Nat} (hm : X.mg "zip" = none) (ha : PAr X [a, b] ta) (hg : Gl X "zip" := by rfl) (hs : starEach [a, b] X.env = (false, eval a X.env) :: starEach [b] X.env := by rfl) (hpl : (backTo pos (starEach [b] X.env)).any (·.1) = false := by rfl) : PIt X (.Tuple elts kk tpos) (.Call (.Name "zip" p) [a, b] [] pos) (iZp ta) := fun F0 B => PI.imp (RZ.pi_zipA hg hm (ha F0 B) hs hpl) fun σ H Q ⟨F, E, R, rp, ht, k⟩ =>
  ⟨F, E, _, rp, ht, fun vs F1 H1 xs E1 s1 r1 p1 h1 => by
    split at h1
    · rename_i da db
      obtain ⟨v, u, rfl, pv, pu⟩ := reps2 p1
      obtain ⟨a, ws, rfl, g1, g2⟩ := rep_lst pv
      obtain ⟨b, zs, rfl, k1, k2⟩ := rep_lst pu
      refine ⟨a, b, ws, zs, rfl, .inl ⟨sqL_mono r1.sF g1, sqL_mono r1.sF k1, k _ F1 H1 _ E1 s1 r1 ?_ h1⟩⟩
      exact {
        go := fun i H F1' x hx s1' sF => by
          obtain ⟨y, y', hy, hy', rfl⟩ := zpD_get hx
          obtain ⟨v, q1, q2⟩ := g2.get hy
          obtain ⟨v', q1', q2'⟩ := k2.get hy'
          refine ⟨⟨ws, zs, v, v', sqL_mono (s1'.trans sF) g1, sqL_mono (s1'.trans sF) k1, q1, q1'⟩, fun w H2 ⟨T, z, z', e1, hT, e2, q, q'⟩ => ?_⟩
          subst e1; subst e2
          have := q ws (sqL_mono (s1'.trans sF) g1)
          rw [q1] at this
          cases this
          have := q' zs (sqL_mono (s1'.trans sF) k1)
          rw [q1'] at this
          cases this
          have sn := same_upd (o := HO.tup [v, v']) (none_of_same sF hT)
          refine ⟨_, sn, same_upd hT, same_upd2 sF, fun b h h' => ?_, .tup (SqT.of upd_same) (.cons ((q2.mono s1').mono sn) (.cons ((q2'.mono s1').mono sn) .nil))⟩
          by_cases q : b = T
          · rw [q]; exact hT
          · rw [upd_ne q] at h'; exact absurd h h'
        stop := fun H F1' s1' sF => ⟨ws, zs, sqL_mono (s1'.trans sF) g1, sqL_mono (s1'.trans sF) k1, by rw [g2.length, k2.length]; simp [zpD]; omega⟩ }
    · rename_i da db
      obtain ⟨v, u, rfl, pv, pu⟩ := reps2 p1
      obtain ⟨a, ws, rfl, g1, g2⟩ := rep_tup pv
      obtain ⟨b, zs, rfl, k1, k2⟩ := rep_tup pu
      refine ⟨a, b, ws, zs, rfl, .inr ⟨sqT_mono r1.sF g1, sqT_mono r1.sF k1, k _ F1 H1 _ E1 s1 r1 ?_ h1⟩⟩
      exact {
        go := fun i H F1' x hx s1' sF => by
          obtain ⟨y, y', hy, hy', rfl⟩ := zpD_get hx
          obtain ⟨v, q1, q2⟩ := g2.get hy
          obtain ⟨v', q1', q2'⟩ := k2.get hy'
          refine ⟨⟨ws, zs, v, v', sqT_mono (s1'.trans sF) g1, sqT_mono (s1'.trans sF) k1, q1, q1'⟩, fun w H2 ⟨T, z, z', e1, hT, e2, q, q'⟩ => ?_⟩
          subst e1; subst e2
          have := q ws (sqT_mono (s1'.trans sF) g1)
          rw [q1] at this
          cases this
          have := q' zs (sqT_mono (s1'.trans sF) k1)
          rw [q1'] at this
          cases this
          have sn := same_upd (o := HO.tup [v, v']) (none_of_same sF hT)
          refine ⟨_, sn, same_upd hT, same_upd2 sF, fun b h h' => ?_, .tup (SqT.of upd_same) (.cons ((q2.mono s1').mono sn) (.cons ((q2'.mono s1').mono sn) .nil))⟩
          by_cases q : b = T
          · rw [q]; exact hT
          · rw [upd_ne q] at h'; exact absurd h h'
        stop := fun H F1' s1' sF => ⟨ws, zs, sqT_mono (s1'.trans sF) g1, sqT_mono (s1'.trans sF) k1, by rw [g2.length, k2.length]; simp [zpD]; omega⟩ }
    · exact h1.elim⟩
end
end TQ

namespace TQ
open PySem PySem.Spec PyProof.Rows L2
/-! ### comprehensions -/
def wpE (E : SE) : List Nat → SE
  | [] => E
  | v :: vs => pt (wpE E vs) v .no
def keepD : Sl → Sl
  | .d x => .d x
  | _ => .no
def bkE (E1 E2 : SE) : List Nat → SE
  | [] => E2
  | v :: vs => pt (bkE E1 E2 vs) v (keepD (gt E1 v))
section
variable {K : PySem.W.Frag} {F0 B F F' F1 H H' H1 : Hp} {σ σ' : L2.St} {E E1 E2 : SE} {a D : Addr} {o : HO} {x : TQ.D} {v : V}
theorem Rp.clr (r : Rp K F0 B F H σ E) (i : Nat) : Rp K F0 B F H (σ.set i none) (E.set i .no) := by
  refine ⟨r.s0, r.sB, r.sF, r.nw, by simp [r.ln], fun j y e => ?_, fun j y e => ?_, fun j k y z a e1 e2 e3 e4 => ?_⟩
  · rcases getset e with ⟨rfl, e, l⟩ | ⟨n, e⟩
    · cases e
    · obtain ⟨w, g1, g2⟩ := r.fz j y e; exact ⟨w, setget g1 n, g2⟩
  · rcases getset e with ⟨rfl, e, l⟩ | ⟨n, e⟩
    · cases e
    · obtain ⟨w, ho, g1, g2⟩ := r.ow j y e; exact ⟨w, ho, setget g1 n, g2⟩
  · rcases getset e1 with ⟨_, e, _⟩ | ⟨n1, e1⟩
    · cases e
    rcases getset e2 with ⟨_, e, _⟩ | ⟨n2, e2⟩
    · cases e
    rcases getset e3 with ⟨q, _, _⟩ | ⟨_, e3⟩
    · exact absurd q n1
    rcases getset e4 with ⟨q, _, _⟩ | ⟨_, e4⟩
    · exact absurd q n2
    exact r.dj j k y z a e1 e2 e3 e4
theorem Rp.wipe (r : Rp K F0 B F H σ E) : ∀ vs : List Nat, Rp K F0 B F H (L2.wipe σ vs) (wpE E vs)
  | [] => r
  | v :: vs => by
    have q := (r.wipe vs).clr v
    rw [← pt_set] at q
    exact q
theorem wpE_len : ∀ vs : List Nat, (wpE E vs).length = E.length
  | [] => rfl
  | v :: vs => by rw [wpE, pt_set, List.length_set, wpE_len vs]
theorem bkE_len : ∀ vs : List Nat, (bkE E1 E2 vs).length = E2.length
  | [] => rfl
  | v :: vs => by rw [bkE, pt_set, List.length_set, bkE_len vs]
theorem bkE_in : ∀ {vs : List Nat} {i : Nat} {s : Sl}, i ∈ vs → (bkE E1 E2 vs)[i]? = some s → s = keepD (gt E1 i)
  | v :: vs, i, s, h, e => by
    rw [bkE, pt_set] at e
    rcases getset e with ⟨rfl, e, _⟩ | ⟨n, e⟩
    · exact e
    · exact bkE_in ((List.mem_cons.mp h).resolve_left n) e
theorem bkE_out : ∀ {vs : List Nat} {i : Nat} {s : Sl}, i ∉ vs → (bkE E1 E2 vs)[i]? = some s → E2[i]? = some s
  | [], i, s, h, e => e
  | v :: vs, i, s, h, e => by
    rw [bkE, pt_set] at e
    rw [List.mem_cons, not_or] at h
    rcases getset e with ⟨q, e, _⟩ | ⟨n, e⟩
    · exact absurd q h.1
    · exact bkE_out h.2 e
theorem wipe_get {σ : L2.St} {i : Nat} {vs : List Nat} (h : i ∉ vs) : (L2.wipe σ vs)[i]? = σ[i]? := wipe_out h
theorem keepD_d {s : Sl} {x : TQ.D} (h : keepD s = .d x) : s = .d x := by cases s <;> simp [keepD] at h ⊢ <;> exact h
theorem keepD_o {s : Sl} {x : TQ.D} (h : keepD s = .o x) : False := by cases s <;> simp [keepD] at h
theorem Rp.unwipe {vs : List Nat} (r1 : Rp K F0 B F1 H1 σ E1) (s : Same F1 F') (r : Rp K F0 B F' H' (L2.wipe σ vs) E2) : Rp K F0 B F' H' σ (bkE E1 E2 vs) := by
  refine ⟨r.s0, r.sB, r.sF, r.nw, ?_, fun j y e => ?_, fun j y e => ?_, fun j k y z a e1 e2 e3 e4 => ?_⟩
  · rw [bkE_len, r.ln, wipe_length]
  · by_cases q : j ∈ vs
    · have := keepD_d (bkE_in q e).symm
      obtain ⟨v, g1, g2⟩ := r1.fz j y (gt_d this)
      exact ⟨v, g1, g2.mono s⟩
    · obtain ⟨v, g1, g2⟩ := r.fz j y (bkE_out q e)
      rw [wipe_get q] at g1
      exact ⟨v, g1, g2⟩
  · by_cases q : j ∈ vs
    · exact (keepD_o (bkE_in q e).symm).elim
    · obtain ⟨a, ho, g1, g2⟩ := r.ow j y (bkE_out q e)
      rw [wipe_get q] at g1
      exact ⟨a, ho, g1, g2⟩
  · by_cases q : j ∈ vs
    · exact (keepD_o (bkE_in q e1).symm).elim
    by_cases q' : k ∈ vs
    · exact (keepD_o (bkE_in q' e2).symm).elim
    exact r.dj j k y z a (bkE_out q e1) (bkE_out q' e2) (by rw [wipe_get q]; exact e3) (by rw [wipe_get q']; exact e4)
/-- an object apart (the list that a comprehension fills) counts as standing at the entry -/
structure Apart (B F H : Hp) (σ : L2.St) (E : SE) (D : Addr) (o : HO) : Prop where
  f : F D = none
  b : B D = none
  h : H D = some o
  s : ∀ (i : Nat) (y : TQ.D), E[i]? = some (.o y) → σ[i]? ≠ some (some (.ref D))
theorem Rp.prot (r : Rp K F0 B F H σ E) (p : Apart B F H σ E D o) : Rp K F (upd B D o) F H σ E :=
  ⟨Same.refl F, same_updL r.sB p.h, r.sF, fun a h h' => absurd h h', r.ln, r.fz, fun i x e => by
    obtain ⟨a, ho, g1, g2, g3, g4, g5⟩ := r.ow i x e
    have : a ≠ D := by rintro rfl; exact p.s i x e g1
    exact ⟨a, ho, g1, g2, by rw [upd_ne this]; exact g3, g4, g5⟩, r.dj⟩
theorem Rp.unprot (r0 : Rp K F0 B F H σ E) (p : Apart B F H σ E D o) (r : Rp K F (upd B D o) F' H' σ' E2) : Rp K F0 B F' H' σ' E2 ∧ Apart B F' H' σ' E2 D o := by
  have sF : Same F F' := r.s0
  refine ⟨⟨r0.s0.trans sF, fun b u e => r.sB b u (same_upd p.b b u e), r.sF, fun a h0 h1 => ?_, r.ln, r.fz, fun i x e => ?_, r.dj⟩, ?_, p.b, r.sB _ _ upd_same, fun i y e q => ?_⟩
  · cases q : F a with
    | some u => exact r0.nw a h0 (by rw [q]; simp)
    | none =>
      have := r.nw a q h1
      by_cases z : a = D
      · rw [z]; exact p.b
      · rw [upd_ne z] at this; exact this
  · obtain ⟨a, ho, g1, g2, g3, g4, g5⟩ := r.ow i x e
    refine ⟨a, ho, g1, g2, ?_, g4, g5⟩
    by_cases z : a = D
    · rw [z]; exact p.b
    · rw [upd_ne z] at g3; exact g3
  · cases q : F' D with
    | none => rfl
    | some u =>
      have := r.nw D p.f (by rw [q]; simp)
      rw [upd_same] at this; cases this
  · obtain ⟨a, ho, g1, g2, g3, g4, g5⟩ := r.ow i y e
    rw [q] at g1; cases g1
    rw [upd_same] at g3; cases g3
theorem Rp.fill (r : Rp K F0 B F H σ E) (p : Apart B F H σ E D o) (o' : HO) : Rp K F0 B F (upd H D o') σ E ∧ Apart B F (upd H D o') σ E D o' :=
  ⟨⟨r.s0, same_updR r.sB p.b, same_updR r.sF p.f, r.nw, r.ln, r.fz, fun i x e => by
    obtain ⟨a, ho, g1, g2, g3, g4, g5⟩ := r.ow i x e
    have : a ≠ D := by rintro rfl; exact p.s i x e g1
    exact ⟨a, ho, g1, g2, g3, by rw [upd_ne this]; exact g4, g5⟩, r.dj⟩, p.f, p.b, upd_same, p.s⟩
theorem Rp.apart (r : Rp K F0 B F H σ E) (h : H D = none) : Apart B F (upd H D o) σ E D o :=
  ⟨none_of_same r.sF h, none_of_same r.sB h, upd_same, fun i y e q => by
    obtain ⟨b, hb, h1, h2, h3, h4, h5⟩ := r.ow i y e
    rw [h1] at q
    cases q
    rw [h] at h4; cases h4⟩
theorem Apart.fr {vs : List V} {ds : List TQ.D} (p : Apart B F H σ E D (.lst vs)) (q : Reps K F vs ds) : Fr K B F H σ E (.ref D) (.lst ds) := ⟨D, _, rfl, p.f, p.b, p.h, q, p.s⟩
end
def lcR (g : TGt) (tt : TB) (te : TV) (vs : List Nat) : List D → List D → SE → (List D → SE → Prop) → Prop
  | [], acc, E, R => R acc E
  | x :: r, acc, E, R => g x E fun E2 => tt E2 fun b E3 => (b = true → te E3 fun y E4 => lcR g tt te vs r (acc ++ [y]) (wpE E4 vs) R) ∧ (b = false → lcR g tt te vs r acc (wpE E3 vs) R)
def tLcm (it : TIt) (g : TGt) (tt : TB) (te : TV) (vs : List Nat) : TV := fun E R => it E fun ds E1 => ds.length ≤ 1000000 ∧ lcR g tt te vs ds [] (wpE E1 vs) fun ys E2 => R (.lst ys) (bkE E1 E2 vs)
section
variable {X : Cx} {e : Expr} {es : List Expr} {t : TV} {ta : TAr} {pos : Pos}
def PTst (X : Cx) (ifs : List Expr) (t : TB) : Prop := ∀ F0 B, PTs X ifs (upT X.K F0 B t)
def tYs : TB := fun E R => R true E
theorem PTs.imp {ifs : List Expr} {t t' : TT} (h : PTs X ifs t) (i : ∀ σ H Q, t' σ H Q → t σ H Q) : PTs X ifs t' := ⟨fun pins s σ H Q I q => h.run pins s σ H Q I (i σ H Q q)⟩
theorem ptst_nil : PTst X [] tYs := fun F0 B => PTs.imp pts_nil fun σ H Q ⟨F, E, R, rp, ht, k⟩ => k true F H E (Same.refl F) rp ht
theorem ptst_one {c : Expr} {t : TB} (h : PTt X c t) : PTst X [c] t := fun F0 B => pts_one (h F0 B)
theorem agr_wipe {ts vs : List Nat} {σ σ' : L2.St} (h : Agr ts (L2.wipe σ vs) σ') (i : ∀ j ∈ ts, j ∈ vs) : L2.wipe σ' vs = L2.wipe σ vs := by
  have hl : σ'.length = σ.length := h.1.trans (wipe_length σ vs)
  apply List.ext_getElem?
  intro j
  by_cases q : j ∈ vs
  · have : ∀ (τ : L2.St) (us : List Nat), j ∈ us → (L2.wipe τ us)[j]? = if j < τ.length then some none else none := by
      intro τ us
      induction us with
      | nil => intro z; cases z
      | cons u us ih =>
        intro z
        rw [L2.wipe]
        by_cases w : u = j
        · subst w
          rw [List.getElem?_set_self', ]
          by_cases l : u < τ.length
          · rw [if_pos l]
            have : u < (L2.wipe τ us).length := by rw [wipe_length]; exact l
            rw [List.getElem?_eq_getElem this]; rfl
          · rw [if_neg l]
            have : (L2.wipe τ us)[u]? = none := List.getElem?_eq_none (by rw [wipe_length]; omega)
            rw [this]; rfl
        · rw [List.getElem?_set_ne w]
          exact ih ((List.mem_cons.mp z).resolve_left fun z => w z.symm)
    rw [this _ _ q, this _ _ q, hl]
  · rw [wipe_get q, wipe_get q, h.2 j (fun z => q (i j z)), wipe_get q]
def exG (K : PySem.W.Frag) (ts : List Nat) (g : TGt) : TG := fun v σ H Q => ∃ F0 B, upG K F0 B ts g v σ H Q
def exT (K : PySem.W.Frag) (t : TB) : TT := fun σ H Q => ∃ F0 B, upT K F0 B t σ H Q
def exV (K : PySem.W.Frag) (t : TV) : TE := fun σ H Q => ∃ F0 B, upV K F0 B t σ H Q
theorem pg_ex {g : TGt} {ts : List Nat} (h : PGt X e ts g) : PG X e (exG X.K ts g) := ⟨fun pins s σ H v u Q I r ⟨F0, B, q⟩ => (h F0 B).run pins s σ H v u Q I r q⟩
theorem pts_ex {ifs : List Expr} {t : TB} (h : PTst X ifs t) : PTs X ifs (exT X.K t) := ⟨fun pins s σ H Q I ⟨F0, B, q⟩ => (h F0 B).run pins s σ H Q I q⟩
theorem pe_ex (h : PV X e t) : PE X e (exV X.K t) := ⟨fun pins s σ H Q I ⟨F0, B, q⟩ => (h F0 B).run pins s σ H Q I q⟩
theorem lc_up {it : TIt} {g : TGt} {ts : List Nat} {tt : TB} {te : TV} {vs : List Nat} (hts : ∀ i ∈ ts, i ∈ vs) {K : PySem.W.Frag} {F0 B : Hp} {σ : L2.St} {H : Hp} {Q : VK}
    (h : ∃ F E R, Rp K F0 B F H σ E ∧ tLcm it g tt te vs E R ∧ ∀ v F' H' x E', Same F F' → Rp K F0 B F' H' σ E' → Fr K B F' H' σ E' v x → R x E' → Q v H') :
    tLc (upI K F0 B it) (exG K ts g) (exT K tt) (exV K te) vs σ H Q := by
  obtain ⟨F, E, R, rp, ht, k⟩ := h
  refine ⟨F, E, _, rp, ht, fun J F' H' ds E' s r wk hR => fun DD hD => ?_⟩
  refine ⟨fun i m H => m = ds.length - i ∧ i ≤ ds.length ∧ ∃ F1 E1 ws ys, Same F' F1 ∧ Rp K F0 B F1 H (L2.wipe σ vs) E1 ∧ Apart B F1 H (L2.wipe σ vs) E1 DD (.lst ws) ∧ Reps K F1 ws ys ∧ ys.length ≤ i ∧
    lcR g tt te vs (ds.drop i) ys E1 (fun ys E2 => R (.lst ys) (bkE E' E2 vs)), ⟨_, rfl, Nat.zero_le _, F', _, [], [], Same.refl F', (r.newO hD).wipe vs, (r.wipe vs).apart hD, .nil, Nat.le_refl _, by simpa using hR.2⟩, fun i m H ⟨em, hi, F1, E1, ws, ys, s1, r1, a1, p1, l1, h1⟩ => ?_⟩
  rcases Nat.lt_or_ge i ds.length with l | l
  · obtain ⟨x, hx⟩ : ∃ x, ds[i]? = some x := ⟨_, List.getElem?_eq_getElem l⟩
    have ed : ds.drop i = x :: ds.drop (i + 1) := by
      rw [List.drop_eq_getElem_cons l]
      rw [List.getElem?_eq_getElem l] at hx
      cases hx
      rfl
    rw [ed] at h1
    obtain ⟨q1, q2⟩ := wk.go i H F1 x hx s1 r1.sF
    refine .inr ⟨q1, fun H => ∃ m', m' < m ∧ (m' = ds.length - (i + 1) ∧ i + 1 ≤ ds.length ∧ ∃ F1 E1 ws ys, Same F' F1 ∧ Rp K F0 B F1 H (L2.wipe σ vs) E1 ∧ Apart B F1 H (L2.wipe σ vs) E1 DD (.lst ws) ∧ Reps K F1 ws ys ∧ ys.length ≤ i + 1 ∧
      lcR g tt te vs (ds.drop (i + 1)) ys E1 (fun ys E2 => R (.lst ys) (bkE E' E2 vs))), fun _ z => z, fun v H2 hy => ?_⟩
    obtain ⟨F2, z1, z2, z3, z4, z5⟩ := q2 v H2 hy
    have r2 : Rp K F0 B F2 H2 (L2.wipe σ vs) E1 := r1.grow z1 z2 z3 z4
    have a2 : Apart B F2 H2 (L2.wipe σ vs) E1 DD (.lst ws) := ⟨(by
      cases q : F2 DD with
      | none => rfl
      | some u =>
        have q2 := z4 DD a1.f (by rw [q]; simp)
        rw [a1.h] at q2
        cases q2), a1.b, z2 _ _ a1.h, a1.s⟩
    refine ⟨F2, upd B DD (.lst ws), F2, E1, x, _, r2.prot a2, z5, h1, fun F3 H3 σ3 E3 s3 r3 ag h3 => ?_⟩
    obtain ⟨r3', a3⟩ := r2.unprot a2 r3
    have ew := agr_wipe ag hts
    refine ⟨ew, F3, upd B DD (.lst ws), F3, E3, _, r3'.prot a3, h3, fun b F4 H4 E4 s4 r4 h4 => ?_⟩
    obtain ⟨r4', a4⟩ := r3'.unprot a3 r4
    have w4 : Rp K F0 B F4 H4 (L2.wipe σ vs) (wpE E4 vs) := by rw [← ew]; exact r4'.wipe vs
    cases b with
    | false =>
      refine ⟨_, by omega, rfl, l, F4, wpE E4 vs, ws, ys, ((s1.trans z1).trans s3).trans s4, w4, ⟨a4.f, a4.b, a4.h, fun j y ej q => ?_⟩, p1.mono ((z1.trans s3).trans s4), by omega, h4.2 rfl⟩
      obtain ⟨c, hc, g1, g2, g3, g4, g5⟩ := (r4.wipe vs).ow j y ej
      rw [ew] at g1
      rw [q] at g1
      cases g1
      rw [upd_same] at g3; cases g3
    | true =>
      refine ⟨F4, upd B DD (.lst ws), F4, E4, _, r4'.prot a4, h4.1 rfl, fun u F5 H5 y E5 s5 r5 p5 h5 => ?_⟩
      obtain ⟨r5', a5⟩ := r4'.unprot a4 r5
      refine ⟨ws, a5.h, by have q := p1.length; have q2 := hR.1; exact Nat.lt_of_lt_of_le (by omega : ws.length < 1000000) (by decide), _, by omega, rfl, l, ?_⟩
      obtain ⟨r6, a6⟩ := r5'.fill a5 (.lst (ws ++ [u]))
      have w6 : Rp K F0 B F5 (upd H5 DD (.lst (ws ++ [u]))) (L2.wipe σ vs) (wpE E5 vs) := by rw [← ew]; exact r6.wipe vs
      refine ⟨F5, wpE E5 vs, ws ++ [u], ys ++ [y], (((s1.trans z1).trans s3).trans s4).trans s5, w6, ⟨a6.f, a6.b, a6.h, fun j y ej q => ?_⟩, (p1.mono (((z1.trans s3).trans s4).trans s5)).snoc p5, by simp; omega, h5⟩
      obtain ⟨c, hc, g1, g2, g3, g4, g5⟩ := (r5.wipe vs).ow j y ej
      rw [ew] at g1
      rw [q] at g1
      cases g1
      rw [upd_same] at g3; cases g3
  · have : i = ds.length := by omega
    subst this
    rw [List.drop_length] at h1
    refine .inl ⟨wk.stop H F1 s1 r1.sF, ?_⟩
    have ru := r.unwipe s1 r1
    refine k (.ref DD) F1 H (.lst ys) _ (s.trans s1) ru ⟨DD, _, rfl, a1.f, a1.b, a1.h, p1, fun j y ej q => ?_⟩ h1
    by_cases z : j ∈ vs
    · exact keepD_o (bkE_in z ej).symm
    · exact a1.s j y (bkE_out z ej) (by rw [wipe_get z]; exact q)
theorem pf_lc {elt tg iter : Expr} {ifs : List Expr} {scope : Scope} {it : TIt} {g : TGt} {ts : List Nat} {tt : TB} {te : TV} (own : List (Str × Nat)) (hc : X.calm = true) (hN : X.N.Nodup) (ok : blkC X.N X.env.scope scope own = true) (hi : PIt X tg iter it)
    (hg : ∀ (s : Shared) (H : Hp) (C : Addr) (cl : List (Str × Addr)) (fp : List Addr), PGt (X.blk s H scope (compEnvC scope cl C X.env) fp) tg ts g) (ht : ∀ (s : Shared) (H : Hp) (C : Addr) (cl : List (Str × Addr)) (fp : List Addr), PTst (X.blk s H scope (compEnvC scope cl C X.env) fp) ifs tt)
    (he : ∀ (s : Shared) (H : Hp) (C : Addr) (cl : List (Str × Addr)) (fp : List Addr), PV (X.blk s H scope (compEnvC scope cl C X.env) fp) elt te) (hts : ts.all (fun i => (own.map (·.2)).contains i) = true := by rfl) (hs : ∀ x, foldedSetIterable iter X.env x = pure x := by intro _; rfl) :
    PF X (.ListComp elt [⟨tg, iter, ifs, 0⟩] scope pos) (tLcm it g tt te (own.map (·.2))) := fun F0 B =>
  PE.imp (pe_lc hc hN (hi F0 B) (blkOk_by ok) (fun s H C cl fp => pg_ex (hg s H C cl fp)) (fun s H C cl fp => pts_ex (ht s H C cl fp)) (fun s H C cl fp => pe_ex (he s H C cl fp)) hs) fun σ H Q q =>
    lc_up (fun i h => by have := List.all_eq_true.mp hts i h; simpa using this) q
theorem pst_setLc {i : Nat} {y : Str} {py : Pos} {elt tg iter : Expr} {ifs : List Expr} {scope : Scope} {spos : Pos} {it : TIt} {g : TGt} {ts : List Nat} {tt : TB} {te : TV} (own : List (Str × Nat)) (hc : X.calm = true) (hN : X.N.Nodup) (ok : blkC X.N X.env.scope scope own = true) (hi : PIt X tg iter it)
    (hg : ∀ (s : Shared) (H : Hp) (C : Addr) (cl : List (Str × Addr)) (fp : List Addr), PGt (X.blk s H scope (compEnvC scope cl C X.env) fp) tg ts g) (ht : ∀ (s : Shared) (H : Hp) (C : Addr) (cl : List (Str × Addr)) (fp : List Addr), PTst (X.blk s H scope (compEnvC scope cl C X.env) fp) ifs tt)
    (he : ∀ (s : Shared) (H : Hp) (C : Addr) (cl : List (Str × Addr)) (fp : List Addr), PV (X.blk s H scope (compEnvC scope cl C X.env) fp) elt te) (hy : X.N[i]? = some y := by rfl) (hyl : X.env.scope.names.lookup y = some .local := by rfl)
    (hsw : swapsWith (.ListComp elt [⟨tg, iter, ifs, 0⟩] scope pos) (some (.Name y py)) spos.line X.env = pure true := by exact sw_true rfl rfl rfl (by decide +kernel)) (hts : ts.all (fun i => (own.map (·.2)).contains i) = true := by rfl) (hs : ∀ x, foldedSetIterable iter X.env x = pure x := by intro _; rfl) {md : Md} (h0 : ok0 md i = true := by rfl) :
    PSt X md (.Assign [.Name y py] (.ListComp elt [⟨tg, iter, ifs, 0⟩] scope pos) spos) (sAo i (tLcm it g tt te (own.map (·.2)))) := fun F0 B =>
  PS.imp (ps_setLc hc hN hy hyl hsw (hi F0 B) (blkOk_by ok) (fun s H C cl fp => pg_ex (hg s H C cl fp)) (fun s H C cl fp => pts_ex (ht s H C cl fp)) (fun s H C cl fp => pe_ex (he s H C cl fp)) hs) fun D σ H ⟨F, E, N, rp, ht, b⟩ =>
    lc_up (fun i h => by have := List.all_eq_true.mp hts i h; simpa using this) ⟨F, E, _, rp, ht, fun v F1 H1 x E1 s1 r1 p1 h1 => b.nx F1 H1 _ _ s1 (r1.setO i p1) (.set h0) (by rw [← pt_set]; exact h1)⟩
end
/-! ### a def -/
def stE (N : List Str) (ds : List D) : SE := ds.map .d ++ List.replicate (N.length - ds.length) .no
def stM (N : List Str) (x : D) (ds : List D) : SE := .o x :: stE N.tail ds
section
variable {P : Program} {w : World} {K : PySem.W.Frag} {mg : Str → Option Value} {base : Heap} {x qual : Str} {st : Stmt} {f : Addr} {fd : FuncData} {N ps : List Str} {k : Nat}
theorem start_rp {F H : Hp} {vs : List V} {ds : List D} (sF : Same F H) (p : Reps K F vs ds) : Rp K F H F H (L2.start N vs) (stE N ds) := by
  have l := p.length
  refine ⟨Same.refl F, Same.refl H, sF, fun a h h' => absurd h h', by simp [stE, L2.start, l], fun i y e => ?_, fun i y e => ?_, fun i j y z a e => ?_⟩
  · unfold stE at e
    rw [List.getElem?_append] at e
    split at e
    · rename_i q
      rw [List.getElem?_map] at e
      cases e2 : ds[i]? with
      | none => rw [e2] at e; cases e
      | some d =>
        rw [e2] at e; cases e
        obtain ⟨v, g1, g2⟩ := p.get e2
        refine ⟨v, ?_, g2⟩
        unfold L2.start
        rw [List.getElem?_append_left (by simp at q ⊢; omega), List.getElem?_map, g1]; rfl
    · rw [List.getElem?_replicate] at e
      split at e <;> cases e
  · unfold stE at e
    rw [List.getElem?_append] at e
    split at e
    · rw [List.getElem?_map] at e
      cases e2 : ds[i]? <;> rw [e2] at e <;> cases e
    · rw [List.getElem?_replicate] at e
      split at e <;> cases e
  · unfold stE at e
    rw [List.getElem?_append] at e
    split at e
    · rw [List.getElem?_map] at e
      cases e2 : ds[i]? <;> rw [e2] at e <;> cases e
    · rw [List.getElem?_replicate] at e
      split at e <;> cases e
abbrev cxD (P : Program) (w : World) (K : PySem.W.Frag) (mg : Str → Option Value) (base : Heap) (N : List Str) (qual : Str) (st : Stmt) (f : Addr) (cdv : Value) (A : Around) (outer : List Env) (s : Shared) (H : Hp) (E : XK) : Cx :=
  (cxOf CX0 P w K mg base N qual (defScope st) f cdv A outer s H E).nox
/-- THE RULE of a def: its derivation, what its reading says -/
theorem fn_F {S : FS} {rd : TSt} {md : Md} (hmd : md = .d) (F : Fun K x qual st f fd) (sc : FnScope N ps (defScope st)) (hl : ∀ ds R, S ds R → ds.length = ps.length)
    (der : ∀ (cdv : Value) (A : Around) (outer : List Env) (s : Shared) (H : Hp) (E : XK), Room k (A.deeper (envOfC qual (defScope st) s.heap.objs.size f cdv)) →
      ∀ F0 B, PSs (cxD P w K mg base N qual st f cdv A outer s H E) (defBody st) (upS K F0 B md rd))
    (sem : ∀ ds R, S ds R → rd ⟨fun _ => R .non, fun x _ => R x, fun _ => False, fun _ => False⟩ (stE N ds)) : FnOk P w K mg base CX0 (k + 1) f fd ps (spF K S) := by
  refine F.ok sc (fun vs H Q E h => ?_) (fun cdv A outer s H vs Q E hr h => ?_)
  · obtain ⟨F, ds, R, _, p, h, _⟩ := h
    rw [p.length]; exact hl ds R h
  · obtain ⟨F, ds, R, sF, p, h, q⟩ := h
    subst hmd
    refine ⟨_, der cdv A outer s H E hr F H, F, stE N ds, _, start_rp sF p, sem ds R h, ?_⟩
    exact ⟨fun F' H' σ' E' s' r' _ hx => q .non F' H' .non s' r'.sB r'.sF r'.nw .non hx, fun v F' H' σ' x E' s' r' _ p' hx => q v F' H' x s' r'.sB r'.sF r'.nw p' hx,
      fun _ _ _ _ _ _ _ z => z.elim, fun _ _ _ _ _ _ _ z => z.elim⟩
/-- .. that hands back a new list of its own -/
theorem fn_N {S : FS} {rd : TSt} (F : Fun K x qual st f fd) (sc : FnScope N ps (defScope st)) (hl : ∀ ds R, S ds R → ds.length = ps.length)
    (der : ∀ (cdv : Value) (A : Around) (outer : List Env) (s : Shared) (H : Hp) (E : XK), Room k (A.deeper (envOfC qual (defScope st) s.heap.objs.size f cdv)) →
      ∀ F0 B, PSs (cxD P w K mg base N qual st f cdv A outer s H E) (defBody st) (upS K F0 B .n rd))
    (sem : ∀ ds R, S ds R → rd ⟨fun _ => False, fun x _ => R x, fun _ => False, fun _ => False⟩ (stE N ds)) : FnOk P w K mg base CX0 (k + 1) f fd ps (spN K S) := by
  refine F.ok sc (fun vs H Q E h => ?_) (fun cdv A outer s H vs Q E hr h => ?_)
  · obtain ⟨F, ds, R, _, p, h, _⟩ := h
    rw [p.length]; exact hl ds R h
  · obtain ⟨F, ds, R, sF, p, h, q⟩ := h
    refine ⟨_, der cdv A outer s H E hr F H, F, stE N ds, _, start_rp sF p, sem ds R h, ?_⟩
    exact ⟨fun _ _ _ _ _ _ _ z => z.elim, fun v F' H' σ' x E' s' r' _ ⟨a, ho, e1, n1, n2, h1, h2, _⟩ hx => by subst e1; exact q a F' H' ho x s' r'.sB r'.sF r'.nw n1 n2 h1 h2 hx,
      fun _ _ _ _ _ _ _ z => z.elim, fun _ _ _ _ _ _ _ z => z.elim⟩
theorem startM_rp {F H : Hp} {a : Addr} {ho : HO} {z : D} {vs : List V} {ds : List D} (hN : 0 < N.length) (sF : Same F H) (fa : F a = none) (ha : H a = some ho) (hh : HOR K F ho z) (p : Reps K F vs ds) :
    Rp K F (fun b => if b = a then none else H b) F H (L2.start N (.ref a :: vs)) (stM N z ds) := by
  obtain ⟨n0, N', rfl⟩ : ∃ n0 N', N = n0 :: N' := by cases N with
    | nil => cases hN
    | cons n0 N' => exact ⟨n0, N', rfl⟩
  have r0 := start_rp (N := N') sF p
  have e1 : L2.start (n0 :: N') (.ref a :: vs) = some (.ref a) :: L2.start N' vs := by
    simp [L2.start]
  have e2 : stM (n0 :: N') z ds = .o z :: stE N' ds := rfl
  rw [e1, e2]
  refine ⟨Same.refl F, fun b o h => ?_, sF, fun b h h' => absurd h h', by simp [r0.ln], fun i y e => ?_, fun i y e => ?_, fun i j y w b e e' g g' => ?_⟩
  · have h : (if b = a then none else H b) = some o := h
    split at h
    · cases h
    · exact h
  · cases i with
    | zero => simp at e
    | succ i => simpa using r0.fz i y (by simpa using e)
  · cases i with
    | zero =>
      simp at e; subst e
      exact ⟨a, ho, rfl, fa, by simp, ha, hh⟩
    | succ i =>
      exfalso
      have e' : (stE N' ds)[i]? = some (.o y) := by simpa using e
      unfold stE at e'
      rw [List.getElem?_append] at e'
      split at e'
      · rw [List.getElem?_map] at e'
        cases e2 : ds[i]? <;> rw [e2] at e' <;> cases e'
      · rw [List.getElem?_replicate] at e'
        split at e' <;> cases e'
  · have no : ∀ {i : Nat} {y : D}, (stE N' ds)[i]? ≠ some (.o y) := fun {i y} e' => by
      unfold stE at e'
      rw [List.getElem?_append] at e'
      split at e'
      · rw [List.getElem?_map] at e'
        cases e2 : ds[i]? <;> rw [e2] at e' <;> cases e'
      · rw [List.getElem?_replicate] at e'
        split at e' <;> cases e'
    cases i with
    | zero =>
      cases j with
      | zero => rfl
      | succ j => exact absurd (by simpa using e') (no (i := j) (y := w))
    | succ i => exact absurd (by simpa using e) (no (i := i) (y := y))
/-- .. whose first argument is a list (a dict) of the caller's own -/
theorem fn_M {S : MS} {rd : TSt} {md : Md} (hmd : md = .m) (F : Fun K x qual st f fd) (sc : FnScope N ps (defScope st)) (hl : ∀ z ds R, S z ds R → ds.length + 1 = ps.length)
    (der : ∀ (cdv : Value) (A : Around) (outer : List Env) (s : Shared) (H : Hp) (E : XK), Room k (A.deeper (envOfC qual (defScope st) s.heap.objs.size f cdv)) →
      ∀ F0 B, PSs (cxD P w K mg base N qual st f cdv A outer s H E) (defBody st) (upS K F0 B md rd))
    (sem : ∀ z ds R, S z ds R → rd ⟨fun E => match gt E 0 with | .o z' => R .non z' | _ => False, fun x E => match gt E 0 with | .o z' => R x z' | _ => False, fun _ => False, fun _ => False⟩ (stM N z ds)) : FnOk P w K mg base CX0 (k + 1) f fd ps (spM K S) := by
  have hN : 0 < N.length ∨ ps = [] := by
    cases ps with
    | nil => exact .inr rfl
    | cons a r =>
      left
      have := sc.pre
      cases N with
      | nil => simp at this
      | cons => simp
  refine F.ok sc (fun vs H Q E h => ?_) (fun cdv A outer s H vs Q E hr h => ?_)
  · obtain ⟨a, vs', F, z, ho, ds, R, rfl, _, _, _, _, p, h, _⟩ := h
    rw [List.length_cons, p.length]; exact hl z ds R h
  · obtain ⟨a, vs', F, z, ho, ds, R, rfl, sF, fa, ha, hh, p, h, q⟩ := h
    have hN' : 0 < N.length := hN.resolve_right fun e => by have := hl z ds R h; rw [e] at this; simp at this
    subst hmd
    refine ⟨_, der cdv A outer s H E hr F _, F, stM N z ds, _, startM_rp hN' sF fa ha hh p, sem z ds R h, ?_⟩
    have fin : ∀ v F' H' σ' y E' z', Same F F' → Rp K F (fun b => if b = a then none else H b) F' H' σ' E' → Rep K F' v y → gt E' 0 = .o z' → R y z' → σ'[0]? = some (some (.ref a)) → Q v H' := fun v F' H' σ' y E' z' s' r' p' g hx e => by
      obtain ⟨b, ho', g1, g2, g3, g4, g5⟩ := r'.ow 0 z' (gt_o g)
      rw [e] at g1; cases g1
      refine q v F' H' y ho' z' s' (fun b o n hb => r'.sB b o (by simp only [if_neg n]; exact hb)) r'.sF (fun b h1 h2 => ?_) g4 g5 p' hx
      have := r'.nw b h1 h2
      by_cases z : b = a
      · subst z; rw [g2] at h2; exact absurd rfl h2
      · simpa [z] using this
    have e0 : (L2.start N (.ref a :: vs'))[0]? = some (some (.ref a)) := rfl
    refine ⟨fun F' H' σ' E' s' r' z hx => ?_, fun v F' H' σ' x E' s' r' z p' hx => ?_, fun _ _ _ _ _ _ _ z => z.elim, fun _ _ _ _ _ _ _ z => z.elim⟩
    · dsimp only at hx
      split at hx
      · rename_i z' g
        exact fin .non F' H' σ' .non E' z' s' r' .non g hx (Eq.trans z e0)
      · exact hx.elim
    · dsimp only at hx
      split at hx
      · rename_i z' g
        exact fin v F' H' σ' x E' z' s' r' p' g hx (Eq.trans z e0)
      · exact hx.elim
end
end TQ

namespace TQ
open PySem PySem.Spec PyProof.Rows L2
/-! ### isinstance -/
def tyD : D → String
  | .non => "NoneType"
  | .bl _ => "bool"
  | .int _ => "int"
  | .str _ => "str"
  | .tup _ => "tuple"
  | .lst _ => "list"
  | .dK _ _ => "dict"
  | .dT _ _ => "dict"
  | .set _ _ => "set"
  | .cls _ => ""
def isT (T : String) (x : D) : Bool := (kitB (tyD x) T).getD false
theorem ty_rep {K : PySem.W.Frag} {F H : Hp} {v : V} {x : D} (e : Same F H) (h : Rep K F v x) (n : ∀ a, x ≠ .cls a) : TyX K H v (.type (tyD x)) := by
  cases h with
  | non => exact .base .non
  | bl b => exact .base (.bl b)
  | int i => exact .base (.int i)
  | str s => exact .base (.str s)
  | tup h r =>
    rcases h with (h | ⟨o, h⟩) | ⟨o, its, n, h, c, _⟩
    · exact .base (.tup (e _ _ h))
    · exact .fTuple (e _ _ h)
    · exact .kTuple h c
  | lst h r =>
    rcases h with (h | ⟨o, h⟩) | ⟨o, its, n, h, c, _⟩
    · exact .base (.lst (e _ _ h))
    · exact .base (.frz (e _ _ h))
    · exact .kList h c
  | dK h l r => exact .base (.dK (e _ _ h))
  | dT h l r => exact .base (.dT (e _ _ h))
  | set h => exact .set (e _ _ h)
  | cls a => exact absurd rfl (n a)
def tIsi (T : String) (t : TV) : TV := fun E R => t E fun x E1 => match x with
  | .cls _ => False
  | _ => R (.bl (isT T x)) E1
def knT (T : String) : Bool := ["NoneType", "bool", "int", "str", "tuple", "list", "dict", "set"].all fun t => (kitB t T).isSome
theorem kit_some {T : String} (h : knT T = true) (x : D) (n : ∀ a, x ≠ .cls a) : kitB (tyD x) T = some (isT T x) := by
  unfold isT
  have h := List.all_eq_true.mp h
  have : tyD x ∈ ["NoneType", "bool", "int", "str", "tuple", "list", "dict", "set"] := by
    cases x <;> first | simp [tyD] | skip
    rename_i a
    exact absurd rfl (n a)
  have q := h _ this
  cases e : kitB (tyD x) T with
  | none => rw [e] at q; cases q
  | some b => rfl
theorem kn_int : knT "int" = true := by decide +kernel
theorem kn_bool : knT "bool" = true := by decide +kernel
theorem kn_str : knT "str" = true := by decide +kernel
theorem kn_tuple : knT "tuple" = true := by decide +kernel
theorem kn_list : knT "list" = true := by decide +kernel
theorem isT_int_int (i : Int) : isT "int" (.int i) = true := by show (kitB "int" "int").getD false = true; decide +kernel
theorem isT_int_bl (i : Bool) : isT "int" (.bl i) = true := by show (kitB "bool" "int").getD false = true; decide +kernel
theorem isT_int_str (i : Str) : isT "int" (.str i) = false := by show (kitB "str" "int").getD false = false; decide +kernel
theorem isT_int_tup (i : List D) : isT "int" (.tup i) = false := by show (kitB "tuple" "int").getD false = false; decide +kernel
theorem isT_int_lst (i : List D) : isT "int" (.lst i) = false := by show (kitB "list" "int").getD false = false; decide +kernel
theorem isT_int_non : isT "int" .non = false := by show (kitB "NoneType" "int").getD false = false; decide +kernel
theorem isT_bool_int (i : Int) : isT "bool" (.int i) = false := by show (kitB "int" "bool").getD false = false; decide +kernel
theorem isT_bool_bl (i : Bool) : isT "bool" (.bl i) = true := by show (kitB "bool" "bool").getD false = true; decide +kernel
theorem isT_bool_str (i : Str) : isT "bool" (.str i) = false := by show (kitB "str" "bool").getD false = false; decide +kernel
theorem isT_bool_tup (i : List D) : isT "bool" (.tup i) = false := by show (kitB "tuple" "bool").getD false = false; decide +kernel
theorem isT_bool_lst (i : List D) : isT "bool" (.lst i) = false := by show (kitB "list" "bool").getD false = false; decide +kernel
theorem isT_bool_non : isT "bool" .non = false := by show (kitB "NoneType" "bool").getD false = false; decide +kernel
theorem isT_str_int (i : Int) : isT "str" (.int i) = false := by show (kitB "int" "str").getD false = false; decide +kernel
theorem isT_str_bl (i : Bool) : isT "str" (.bl i) = false := by show (kitB "bool" "str").getD false = false; decide +kernel
theorem isT_str_str (i : Str) : isT "str" (.str i) = true := by show (kitB "str" "str").getD false = true; decide +kernel
theorem isT_str_tup (i : List D) : isT "str" (.tup i) = false := by show (kitB "tuple" "str").getD false = false; decide +kernel
theorem isT_str_lst (i : List D) : isT "str" (.lst i) = false := by show (kitB "list" "str").getD false = false; decide +kernel
theorem isT_str_non : isT "str" .non = false := by show (kitB "NoneType" "str").getD false = false; decide +kernel
theorem isT_tuple_int (i : Int) : isT "tuple" (.int i) = false := by show (kitB "int" "tuple").getD false = false; decide +kernel
theorem isT_tuple_bl (i : Bool) : isT "tuple" (.bl i) = false := by show (kitB "bool" "tuple").getD false = false; decide +kernel
theorem isT_tuple_str (i : Str) : isT "tuple" (.str i) = false := by show (kitB "str" "tuple").getD false = false; decide +kernel
theorem isT_tuple_tup (i : List D) : isT "tuple" (.tup i) = true := by show (kitB "tuple" "tuple").getD false = true; decide +kernel
theorem isT_tuple_lst (i : List D) : isT "tuple" (.lst i) = false := by show (kitB "list" "tuple").getD false = false; decide +kernel
theorem isT_tuple_non : isT "tuple" .non = false := by show (kitB "NoneType" "tuple").getD false = false; decide +kernel
theorem isT_list_int (i : Int) : isT "list" (.int i) = false := by show (kitB "int" "list").getD false = false; decide +kernel
theorem isT_list_bl (i : Bool) : isT "list" (.bl i) = false := by show (kitB "bool" "list").getD false = false; decide +kernel
theorem isT_list_str (i : Str) : isT "list" (.str i) = false := by show (kitB "str" "list").getD false = false; decide +kernel
theorem isT_list_tup (i : List D) : isT "list" (.tup i) = false := by show (kitB "tuple" "list").getD false = false; decide +kernel
theorem isT_list_lst (i : List D) : isT "list" (.lst i) = true := by show (kitB "list" "list").getD false = true; decide +kernel
theorem isT_list_non : isT "list" .non = false := by show (kitB "NoneType" "list").getD false = false; decide +kernel
section
variable {X : Cx} {e : Expr} {t : TV} {pos : Pos}
theorem pv_isi {x y : Str} {p p2 : Pos} {T : String} (hm : X.mg x = none) (hv : bootBuiltins x = some (.builtin "isinstance")) (hm2 : X.mg y = none) (hv2 : bootBuiltins y = some (.type T)) (hT : knT T = true) (he : PV X e t) (hg : Gl X x := by rfl) (hg2 : Gl X y := by rfl)
    (hn : x ≠ "__name__" := by decide) (hdb : (x == ("__debug__" : Str)) = false := by decide) (hn2 : y ≠ "__name__" := by decide) (hdb2 : (y == ("__debug__" : Str)) = false := by decide)
    (he1 : starEach [e, .Name y p2] X.env = (false, eval e X.env) :: starEach [.Name y p2] X.env := by rfl) (hpl : (backTo pos (starEach [.Name y p2] X.env)).any (·.1) = false := by rfl) :
    PV X (.Call (.Name x p) [e, .Name y p2] [] pos) (tIsi T t) := fun F0 B =>
  PE.imp (pe_callB call_isi hg hm hv (pa_cons (he F0 B) (pa_cons (pe_bltn (v := .ty T) hg2 hm2 hv2 rfl hn2 hdb2) pa_nil) he1) hn hdb he1 hpl) fun σ H Q ⟨F, E, R, rp, ht, k⟩ => ⟨F, E, _, rp, ht, fun v F1 H1 x E1 s1 r1 p1 h1 => by
    have n : ∀ a, x ≠ .cls a := by rintro a rfl; exact h1
    have h1 : R (.bl (isT T x)) E1 := by cases x <;> first | exact h1 | exact h1.elim
    exact ⟨v, .ty T, .type (tyD x), .type T, _, rfl, .ty T, ty_rep r1.sF p1 n, kit_ty (kit_some hT x n), k _ F1 H1 _ E1 s1 r1 (.bl _) h1⟩⟩
/-- isinstance(e, (S, T)) -/
def tIsi2 (S T : String) (t : TV) : TV := fun E R => t E fun x E1 => match x with
  | .cls _ => False
  | _ => R (.bl (isT S x || isT T x)) E1
theorem pv_isi2 {x y z : Str} {p p2 p3 p4 : Pos} {kk} {S T : String} (hm : X.mg x = none) (hv : bootBuiltins x = some (.builtin "isinstance")) (hm2 : X.mg y = none) (hv2 : bootBuiltins y = some (.type S)) (hm3 : X.mg z = none) (hv3 : bootBuiltins z = some (.type T)) (hS : knT S = true) (hT : knT T = true) (he : PV X e t)
    (hg : Gl X x := by rfl) (hg2 : Gl X y := by rfl) (hg3 : Gl X z := by rfl)
    (hn : x ≠ "__name__" := by decide) (hdb : (x == ("__debug__" : Str)) = false := by decide) (hn2 : y ≠ "__name__" := by decide) (hdb2 : (y == ("__debug__" : Str)) = false := by decide) (hn3 : z ≠ "__name__" := by decide) (hdb3 : (z == ("__debug__" : Str)) = false := by decide)
    (he1 : starEach [e, .Tuple [.Name y p2, .Name z p3] kk p4] X.env = (false, eval e X.env) :: starEach [.Tuple [.Name y p2, .Name z p3] kk p4] X.env := by rfl) (hpl : (backTo pos (starEach [.Tuple [.Name y p2, .Name z p3] kk p4] X.env)).any (·.1) = false := by rfl) :
    PV X (.Call (.Name x p) [e, .Tuple [.Name y p2, .Name z p3] kk p4] [] pos) (tIsi2 S T t) := fun F0 B =>
  PE.imp (pe_callB call_isiT hg hm hv (pa_cons (he F0 B) (pa_cons (pe_tup (pa_cons (pe_bltn (v := .ty S) hg2 hm2 hv2 rfl hn2 hdb2) (pa_cons (pe_bltn (v := .ty T) hg3 hm3 hv3 rfl hn3 hdb3) pa_nil))) pa_nil) he1) hn hdb he1 hpl) fun σ H Q ⟨F, E, R, rp, ht, k⟩ => ⟨F, E, _, rp, ht, fun v F1 H1 x E1 s1 r1 p1 h1 => by
    have n : ∀ a, x ≠ .cls a := by rintro a rfl; exact h1
    have h1 : R (.bl (isT S x || isT T x)) E1 := by cases x <;> first | exact h1 | exact h1.elim
    refine ⟨by show 2 ≤ sizeLine; decide, fun q hq => ⟨v, q, [.ty S, .ty T], .type (tyD x), [.type S, .type T], isT S x || isT T x, rfl, upd_same, .cons (.ty S) (.cons (.ty T) .nil), ty_rep (r1.sF.trans (same_upd hq)) p1 n, ?_, ?_⟩⟩
    · have a := kit_ty (K := X.K) (kit_some hS x n)
      have b := kit_ty (K := X.K) (kit_some hT x n)
      refine kitAny_cons a (fun h => ?_) (fun h => by rw [h]; rfl)
      rw [h, Bool.false_or]
      refine kitAny_cons b (fun h => ?_) (fun h => by rw [h])
      rw [h]; exact kitAny_nil
    · have sF : Same F1 (upd F1 q (.tup [.ty S, .ty T])) := same_upd (none_of_same r1.sF hq)
      exact k _ F1 _ _ E1 s1 (r1.newO hq) (.bl _) h1⟩
/-! ### == of data -/
mutual
def toP : D → PyData
  | .non => .none
  | .bl b => .bool b
  | .int i => .int i
  | .str x => .str x
  | .tup ds => .tuple (toPs ds)
  | .lst ds => .list (toPs ds)
  | _ => .dict []
def toPs : List D → List PyData
  | [] => []
  | d :: ds => toP d :: toPs ds
end
theorem dict_not (d : D) (h : (toP d).canLay0 = true) : (match d with | .dK _ _ | .dT _ _ | .set _ _ | .cls _ => False | _ => True) := by
  cases d <;> first | trivial | (simp [toP, PyData.canLay0] at h)
mutual
theorem dp_of {K : PySem.W.Frag} {F : Hp} : ∀ {v : V} {d : D}, Rep K F v d → (toP d).canLay0 = true → Dp K F v (toP d)
  | _, _, .non, _ => .non
  | _, _, .bl b, _ => .bl b
  | _, _, .int i, _ => .int i
  | _, _, .str x, _ => .str x
  | _, _, .tup h r, q => .tup h (dps_of r (by simpa [toP, PyData.canLay0] using q))
  | _, _, .lst h r, q => .lst h (dps_of r (by simpa [toP, PyData.canLay0] using q))
  | _, _, .dK _ _ _, q => (dict_not _ q).elim
  | _, _, .dT _ _ _, q => (dict_not _ q).elim
  | _, _, .set _, q => (dict_not _ q).elim
  | _, _, .cls _, q => (dict_not _ q).elim
theorem dps_of {K : PySem.W.Frag} {F : Hp} : ∀ {vs : List V} {ds : List D}, Reps K F vs ds → PyData.canLayAll0 (toPs ds) = true → DpAll K F vs (toPs ds)
  | _, _, .nil, _ => .nil
  | _, _, .cons h r, q => by
    rw [toPs, PyData.canLayAll0, Bool.and_eq_true] at q
    exact .cons (dp_of h q.1) (dps_of r q.2)
end
def okP (d : D) : Prop := SeqAt.shaped (toP d) = true
def eqvD (x y : D) : Bool := PyData.eqv (toP x) (toP y)
def oEqD : O2 := fun x y k => okP x ∧ okP y ∧ k (.bl (eqvD x y))
def oNeD : O2 := fun x y k => okP x ∧ okP y ∧ k (.bl (!eqvD x y))
theorem o2_eqD : Op2 X (rEqD X.K) oEqD := fun F0 B F H σ E v u x y k Q r p1 p2 h q => by
  obtain ⟨h1, h2, h⟩ := h
  have c1 : (toP x).canLay0 = true := (Bool.and_eq_true_iff.mp h1).1
  have c2 : (toP y).canLay0 = true := (Bool.and_eq_true_iff.mp h2).1
  exact ⟨toP x, toP y, dp_of (p1.mono r.sF) c1, dp_of (p2.mono r.sF) c2, h1, h2, q _ F H _ (Same.refl F) r (.bl _) h⟩
theorem o2_neD : Op2 X (rNeD X.K) oNeD := fun F0 B F H σ E v u x y k Q r p1 p2 h q => by
  obtain ⟨h1, h2, h⟩ := h
  have c1 : (toP x).canLay0 = true := (Bool.and_eq_true_iff.mp h1).1
  have c2 : (toP y).canLay0 = true := (Bool.and_eq_true_iff.mp h2).1
  exact ⟨toP x, toP y, dp_of (p1.mono r.sF) c1, dp_of (p2.mono r.sF) c2, h1, h2, q _ F H _ (Same.refl F) r (.bl _) h⟩
/-! ### x in t, ints -/
def intsOf : List D → Option (List Int)
  | [] => some []
  | .int i :: r => (intsOf r).map (i :: ·)
  | _ => none
theorem intsOf_eq : ∀ {ds : List D} {ns : List Int}, intsOf ds = some ns → ds = ns.map D.int
  | [], _, h => by cases h; rfl
  | d :: r, ns, h => by
    cases d <;> simp only [intsOf] at h <;> try cases h
    cases e : intsOf r with
    | none => rw [e] at h; cases h
    | some ms => rw [e] at h; cases h; rw [intsOf_eq e]; rfl
theorem intsOf_map : ∀ ns : List Int, intsOf (ns.map D.int) = some ns
  | [] => rfl
  | n :: ns => by rw [List.map_cons, intsOf, intsOf_map ns]; rfl
def oIn (neg : Bool) : O2 := fun x y k => match x, y with
  | .int i, .lst ds => match intsOf ds with
    | some ns => k (.bl (if neg then !ns.contains i else ns.contains i))
    | none => False
  | .int i, .tup ds => match intsOf ds with
    | some ns => k (.bl (if neg then !ns.contains i else ns.contains i))
    | none => False
  | _, _ => False
theorem inV_ints (i : Int) : ∀ ns : List Int, inV (.int i) (ns.map V.int) = ns.contains i
  | [] => rfl
  | n :: ns => by
    show (eqV (.int n) (.int i) || inV (.int i) (ns.map V.int)) = _
    rw [inV_ints i ns, List.contains_cons]
    show ((n == i) || _) = _
    rw [Bool.beq_comm]
theorem flat_ints (ns : List Int) : (ns.map V.int).all flatV = true := by simp [flatV]
theorem o2_in (neg : Bool) : Op2 X (rIn X.K neg) (oIn neg) := fun F0 B F H σ E v u x y k Q r p1 p2 h q => by
  unfold oIn at h
  split at h
  · rename_i i ds
    split at h
    · rename_i ns e
      have e := intsOf_eq e
      subst e
      obtain ⟨a, ws, rfl, g1, g2⟩ := rep_lst p2
      have := Reps.ints g2
      subst this
      refine ⟨a, _, rfl, .inl (sqL_mono r.sF g1), by rw [rep_int p1]; rfl, flat_ints ns, ?_⟩
      rw [rep_int p1, inV_ints]
      exact q _ F H _ (Same.refl F) r (.bl _) h
    · exact h.elim
  · rename_i i ds
    split at h
    · rename_i ns e
      have e := intsOf_eq e
      subst e
      obtain ⟨a, ws, rfl, g1, g2⟩ := rep_tup p2
      have := Reps.ints g2
      subst this
      refine ⟨a, _, rfl, .inr (sqT_mono r.sF g1), by rw [rep_int p1]; rfl, flat_ints ns, ?_⟩
      rw [rep_int p1, inV_ints]
      exact q _ F H _ (Same.refl F) r (.bl _) h
    · exact h.elim
  · exact h.elim
end
end TQ

namespace TQ
open PySem PySem.Spec PyProof.Rows L2
section
variable {X : Cx} {a b c e : Expr} {es : List Expr} {t u ta tb tc : TV} {pos : Pos}
/-! ### a < b < c -/
def tChn (o o2 : O2) (ta tb tc : TV) : TV := fun E R => ta E fun x E1 => tb E1 fun y E2 => o x y fun z => match z with
  | .bl k => (k = true → tc E2 fun w E3 => o2 y w fun r => R r E3) ∧ (k = false → R (.bl false) E2)
  | _ => False
theorem chain_up {r r2 : R2} {o o2 : O2} (h : Op2 X r o) (h2 : Op2 X r2 o2) {F0 B : Hp} (σ : L2.St) (H : Hp) (Q : VK) (q : upV X.K F0 B (tChn o o2 ta tb tc) σ H Q) : tChain r r2 (upV X.K F0 B ta) (upV X.K F0 B tb) (upV X.K F0 B tc) σ H Q := by
  obtain ⟨F, E, R, rp, ht, k⟩ := q
  refine ⟨F, E, _, rp, ht, fun v F1 H1 x E1 s1 r1 p1 ht1 => ?_⟩
  refine ⟨F1, E1, _, r1, ht1, fun u F2 H2 y E2 s2 r2 p2 ht2 => ?_⟩
  refine h F0 B F2 H2 σ E2 v u x y _ _ r2 (p1.mono s2) p2 ht2 fun w F3 H3 z s3 r3 p3 hz => ?_
  split at hz
  · rename_i kk
    refine ⟨kk, rep_bl p3, ?_⟩
    cases kk with
    | true =>
      refine ⟨F3, E2, _, r3, hz.1 rfl, fun w F4 H4 z E4 s4 r4 p4 hz4 => ?_⟩
      exact h2 F0 B F4 H4 σ E4 u w y z _ Q r4 ((p2.mono s3).mono s4) p4 hz4 fun w F' H' z s5 r5 p5 hz5 => k w F' H' z E4 ((((s1.trans s2).trans s3).trans s4).trans s5) r5 p5 hz5
    | false => exact k _ F3 H3 _ E2 ((s1.trans s2).trans s3) r3 (.bl false) (hz.2 rfl)
  · exact hz.elim
theorem pv_chain {op op' : CmpOp} {r r' : R2} {o o' : O2} (ho : OpR X (compareOp op) r) (h : Op2 X r o) (ho' : OpR X (compareOp op') r') (h' : Op2 X r' o') (ha : PV X a ta) (hb : PV X b tb) (hc : PV X c tc)
    (hm : lastMarks [op, op'] [b, c] = false := by with_unfolding_all rfl) : PV X (.Compare a [op, op'] [b, c] pos) (tChn o o' ta tb tc) := fun F0 B => PE.imp (pe_chain ho ho' (ha F0 B) (hb F0 B) (hc F0 B) hm) (chain_up h h')
theorem pt_chain' {op op' : CmpOp} {r r' : R2} {o o' : O2} (ho : OpR X (compareOp op) r) (h : Op2 X r o) (ho' : OpR X (compareOp op') r') (h' : Op2 X r' o') (ha : PV X a ta) (hb : PV X b tb) (hc : PV X c tc)
    (hm : lastMarks [op, op'] [b, c] = false := by with_unfolding_all rfl) : PTt X (.Compare a [op, op'] [b, c] pos) (tTs (tChn o o' ta tb tc)) := fun F0 B => PT.imp (PT.imp (pt_chain ho ho' (ha F0 B) (hb F0 B) (hc F0 B) hm) fun σ H Q q => by
    obtain ⟨F, E, R, rp, ht, k⟩ := q
    exact chain_up h h' σ H _ ⟨F, E, _, rp, ht, k⟩) (tst_up (t := tChn o o' ta tb tc))
/-! ### // by a number of any sign -/
def CDivZ (_ j : Int) : Prop := j ≠ 0 ∧ j.natAbs.log2 < 9000
def oDivZ : O2 := fun x y k => match x, y with
  | .int i, .int j => CDivZ i j ∧ k (.int (i.fdiv j))
  | _, _ => False
theorem op_divZ : OpR X (binaryOp .FloorDiv) (rI CDivZ fun i j => .int (i.fdiv j)) := opI fun i j _ _ _ _ _ hc q => PyProof.Rows.floordiv_int hc.1 q (.inl (PyProof.noPylong_of_log2 hc.2))
theorem o2_divZ : Op2 X (rI CDivZ fun i j => .int (i.fdiv j)) oDivZ := two_int (g := fun i j => i.fdiv j) fun x y k h => by
  cases x <;> cases y <;> first | exact ⟨_, _, rfl, rfl, h⟩ | exact h.elim
/-! ### a new list, then others -/
def exA (K : PySem.W.Frag) (t : TAr) : TA := fun σ H Q => ∃ F0 B, upA K F0 B t σ H Q
theorem pa_ex {ta : TAr} (h : PAr X es ta) : PA X es (exA X.K ta) := ⟨fun p pins s σ H Q I ⟨F0, B, q⟩ => (h F0 B).run p pins s σ H Q I q⟩
def upFA (K : PySem.W.Frag) (F0 B : Hp) (t : TV) (u : TAr) : TA := fun σ H Q => ∃ (F : Hp) (E : SE) (R : D → List D → SE → Prop), Rp K F0 B F H σ E ∧ (t E fun x E1 => u E1 fun xs E2 => R x xs E2) ∧
  ∀ v vs F' H' x xs E', Same F F' → Rp K F0 B F' H' σ E' → Fr K B F' H' σ E' v x → Reps K F' vs xs → R x xs E' → Q (v :: vs) H'
theorem pa_consF {u : TAr} (ha : PF X e t) (hr : PAr X es u) (hs : starEach (e :: es) X.env = (false, eval e X.env) :: starEach es X.env := by rfl) (F0 B : Hp) : PA X (e :: es) (upFA X.K F0 B t u) :=
  PA.imp (pa_cons (ha F0 B) (pa_ex hr) hs) fun σ H Q ⟨F, E, R, rp, ht, k⟩ => ⟨F, E, _, rp, ht, fun v F1 H1 x E1 s1 r1 ⟨D, ho, e1, f1, b1, h1, o1, n1⟩ hx => by
    subst e1
    have ap : Apart B F1 H1 σ E1 D ho := ⟨f1, b1, h1, n1⟩
    refine ⟨F1, upd B D ho, F1, E1, _, r1.prot ap, hx, fun vs F2 H2 xs E2 s2 r2 p2 hxs => ?_⟩
    obtain ⟨r2', a2⟩ := r1.unprot ap r2
    exact k _ _ F2 H2 x xs E2 (s1.trans s2) r2' ⟨D, ho, rfl, a2.f, a2.b, a2.h, o1.mono s2, a2.s⟩ p2 hxs⟩
def sPrO (i j : Nat) (t : TV) (ta : TAr) : TSt := fun N E => t E fun x E1 => ta E1 fun xs E2 => match xs with
  | [y] => N.nx (pt (pt E2 j (.d y)) i (.o x))
  | _ => False
def sPrO3 (i j l : Nat) (t : TV) (ta : TAr) : TSt := fun N E => t E fun x E1 => ta E1 fun xs E2 => match xs with
  | [y, z] => N.nx (pt (pt (pt E2 l (.d z)) j (.d y)) i (.o x))
  | _ => False
theorem Fr.setD {K : PySem.W.Frag} {F0 B F H : Hp} {σ : L2.St} {E : SE} {v w : V} {x y : D} {j : Nat} (f : Fr K B F H σ E v x) (rp : Rp K F0 B F H σ E) : Fr K B F H (σ.set j (some w)) (E.set j (.d y)) v x := by
  obtain ⟨a, ho, e, h1, h2, h3, h4, h5⟩ := f
  refine ⟨a, ho, e, h1, h2, h3, h4, fun i y e q => ?_⟩
  rcases getset e with ⟨_, e, _⟩ | ⟨n, e⟩
  · cases e
  rcases getset q with ⟨z, _, _⟩ | ⟨_, q⟩
  · exact absurd z n
  exact h5 i y e q
theorem pst_parO {ta : TAr} (i j : Nat) {x y : Str} {a b : Expr} {px py pt' : Pos} {kt k2 pt2} {md : Md} (hc : X.calm = true) (hN : X.N.Nodup) (h1 : PF X a t) (ha : PAr X [b] ta) (hw : swappedStores [.Tuple [.Name x px, .Name y py] kt pt'] (.Tuple [a, b] k2 pt2) X.env = pure (some [x, y]) := by rfl) (hij : i ≠ j := by decide) (hi : X.N[i]? = some x := by rfl) (hj : X.N[j]? = some y := by rfl)
    (hx : X.env.scope.names.lookup x = some .local := by rfl) (hy : X.env.scope.names.lookup y = some .local := by rfl)
    (hs : swapsWithSole [.Tuple [.Name x px, .Name y py] kt pt'] (.Tuple [a, b] k2 pt2) pos.line X.env = pure false := by rfl) (hst : starEach (a :: [b]) X.env = (false, eval a X.env) :: starEach [b] X.env := by rfl) (h0 : (ok0 md i && ok0 md j) = true := by rfl) :
    PSt X md (.Assign [.Tuple [.Name x px, .Name y py] kt pt'] (.Tuple [a, b] k2 pt2) pos) (sPrO i j t ta) := fun F0 B => PS.imp (ps_par hc hN hi hj hij hx hy (pa_consF h1 ha hst F0 B) hw hs) fun D σ H ⟨F, E, N, rp, ht, b⟩ =>
  ⟨F, E, _, rp, ht, fun v vs F1 H1 x xs E1 s1 r1 f1 p1 h1 => by
    split at h1
    · obtain ⟨u, rfl, pu⟩ := reps1 p1
      refine ⟨v, u, rfl, ?_⟩
      rw [pt_set, pt_set] at h1
      have r2 := (r1.setD j pu).setO i (f1.setD r1)
      rw [List.set_comm _ _ hij.symm] at r2
      have h0 := Bool.and_eq_true_iff.mp h0
      exact b.nx F1 H1 _ _ s1 r2 (St0.trans (.set h0.1) (.set h0.2)) h1
    · exact h1.elim⟩
theorem pst_parO3 {ta : TAr} (i j l : Nat) {x y z : Str} {a b c : Expr} {px py pz pt' : Pos} {kt k2 pt2} {md : Md} (hc : X.calm = true) (hN : X.N.Nodup) (h1 : PF X a t) (ha : PAr X [b, c] ta) (hw : swappedStores [.Tuple [.Name x px, .Name y py, .Name z pz] kt pt'] (.Tuple [a, b, c] k2 pt2) X.env = pure (some [x, y, z]) := by rfl) (hij : i ≠ j := by decide) (hil : i ≠ l := by decide) (hjl : j ≠ l := by decide)
    (hi : X.N[i]? = some x := by rfl) (hj : X.N[j]? = some y := by rfl) (hl : X.N[l]? = some z := by rfl)
    (hx : X.env.scope.names.lookup x = some .local := by rfl) (hy : X.env.scope.names.lookup y = some .local := by rfl) (hz : X.env.scope.names.lookup z = some .local := by rfl)
    (hs : swapsWithSole [.Tuple [.Name x px, .Name y py, .Name z pz] kt pt'] (.Tuple [a, b, c] k2 pt2) pos.line X.env = pure false := by rfl) (hst : starEach (a :: [b, c]) X.env = (false, eval a X.env) :: starEach [b, c] X.env := by rfl) (h0 : (ok0 md i && ok0 md j && ok0 md l) = true := by rfl) :
    PSt X md (.Assign [.Tuple [.Name x px, .Name y py, .Name z pz] kt pt'] (.Tuple [a, b, c] k2 pt2) pos) (sPrO3 i j l t ta) := fun F0 B => PS.imp (ps_par3 hc hN hi hj hl hij hil hjl hx hy hz (pa_consF h1 ha hst F0 B) hw hs) fun D σ H ⟨F, E, N, rp, ht, b⟩ =>
  ⟨F, E, _, rp, ht, fun v vs F1 H1 x xs E1 s1 r1 f1 p1 h1 => by
    split at h1
    · obtain ⟨u, w, rfl, pu, pw⟩ := reps2 p1
      refine ⟨v, u, w, rfl, ?_⟩
      rw [pt_set, pt_set, pt_set] at h1
      have q1 := r1.setD l pw
      have r2 := (q1.setD j pu).setO i ((f1.setD r1).setD q1)
      rw [List.set_comm _ _ hjl.symm, List.set_comm (l := (σ.set j (some u))) _ _ hil.symm, List.set_comm (l := σ) _ _ hij.symm] at r2
      have h0 := Bool.and_eq_true_iff.mp h0
      have h1' := Bool.and_eq_true_iff.mp h0.1
      exact b.nx F1 H1 _ _ s1 r2 (St0.trans (St0.trans (.set h1'.1) (.set h1'.2)) (.set h0.2)) h1
    · exact h1.elim⟩
/-! ### xs or ys, both new lists -/
def tOrL (t u : TV) : TV := fun E R => t E fun x E1 => match x with
  | .lst ds => (ds ≠ [] → R (.lst ds) E1) ∧ (ds = [] → u E1 R)
  | _ => False
theorem pf_orL (ha : PF X a t) (hb : PF X b u) : PF X (.BoolOp .Or [a, b] pos) (tOrL t u) := fun F0 B => PE.imp (pe_orT (ha F0 B) (pe_one (hb F0 B))) fun σ H Q ⟨F, E, R, rp, ht, k⟩ =>
  ⟨F, E, _, rp, ht, fun v F1 H1 x E1 s1 r1 f1 h1 => by
    split at h1
    · rename_i ds
      obtain ⟨A, ho, rfl, g1, g2, g3, g4, g5⟩ := id f1
      cases ho <;> simp only [HOR] at g4
      rename_i vs
      refine ⟨!vs.isEmpty, .inl ⟨vs, SqL.of g3, rfl⟩, ?_⟩
      cases vs with
      | nil =>
        cases g4
        refine iteF ?_
        exact ⟨F1, E1, R, r1, h1.2 rfl, fun w F2 H2 y E2 s2 => k w F2 H2 y E2 (s1.trans s2)⟩
      | cons q r =>
        refine iteT ?_
        exact k _ F1 H1 _ E1 s1 r1 f1 (h1.1 (by rintro rfl; cases g4))
    · exact h1.elim⟩
/-! ### list(range(..)) -/
def tLrg1 (ta : TAr) : TV := fun E R => ta E fun xs E1 => match xs with
  | [.int j] => RgOk 0 j ∧ R (.lst (rgD 0 1 j.toNat)) E1
  | _ => False
def tLrg2 (ta : TAr) : TV := fun E R => ta E fun xs E1 => match xs with
  | [.int i, .int j] => RgOk i j ∧ R (.lst (rgD i 1 (j - i).toNat)) E1
  | _ => False
theorem rg_reps {K : PySem.W.Frag} {F : Hp} (i j : Int) : Reps K F (rgV i j) (rgD i 1 (j - i).toNat) := by
  have : rgD i 1 (j - i).toNat = ((List.range (j - i).toNat).map fun (m : Nat) => i + (m : Int)).map D.int := by
    unfold rgD; rw [List.map_map]; apply List.map_congr_left; intro m _; simp
  rw [this]
  have e : rgV i j = ((List.range (j - i).toNat).map fun (m : Nat) => i + (m : Int)).map V.int := by
    unfold rgV; rw [List.map_map]; rfl
  rw [e]
  exact Reps.ofInts _
theorem pf_lrg1 {p p2 : Pos} {pos2 : Pos} {ta : TV} (hm : X.mg "list" = none) (hm2 : X.mg "range" = none) (ha : PV X a ta) (hc : X.calm = true := by rfl) (hg : Gl X "list" := by rfl) (hg2 : Gl X "range" := by rfl) (na : starEach [a] X.env = (false, eval a X.env) :: starEach [] X.env := by rfl)
    (na2 : starEach [.Call (.Name "range" p2) [a] [] pos2] X.env = (false, eval (.Call (.Name "range" p2) [a] [] pos2) X.env) :: starEach [] X.env := by rfl) : PF X (.Call (.Name "list" p) [.Call (.Name "range" p2) [a] [] pos2] [] pos) (tLrg1 (aCons ta aNil)) := fun F0 B =>
  PE.imp (pe_listRg hc hg hm (prg_1 hg2 hm2 (ha F0 B) na) na2) fun σ H Q ⟨F, E, R, rp, ht, k⟩ => ⟨F, E, _, rp, ht, fun v F1 H1 x E1 s1 r1 p1 h1 => by
    have h1 : (match ([x] : List D) with | [.int j] => RgOk 0 j ∧ R (.lst (rgD 0 1 j.toNat)) E1 | _ => False) := h1
    split at h1
    · rename_i j e
      cases e
      exact ⟨j, rep_int p1, h1.1, fun q hq => k _ F1 _ _ E1 s1 (r1.newO hq) (r1.frO hq (o := .lst _) (x := .lst _) (by have := rg_reps (K := X.K) (F := F1) 0 j; rw [Int.sub_zero] at this; exact this)) h1.2⟩
    · exact h1.elim⟩
theorem pf_lrg2 {p p2 : Pos} {pos2 : Pos} {ta tb : TV} (hm : X.mg "list" = none) (hm2 : X.mg "range" = none) (ha : PV X a ta) (hb : PV X b tb) (hc : X.calm = true := by rfl) (hg : Gl X "list" := by rfl) (hg2 : Gl X "range" := by rfl) (na : starEach [a, b] X.env = (false, eval a X.env) :: starEach [b] X.env := by rfl) (nb : starEach [b] X.env = (false, eval b X.env) :: starEach [] X.env := by rfl)
    (na2 : starEach [.Call (.Name "range" p2) [a, b] [] pos2] X.env = (false, eval (.Call (.Name "range" p2) [a, b] [] pos2) X.env) :: starEach [] X.env := by rfl) : PF X (.Call (.Name "list" p) [.Call (.Name "range" p2) [a, b] [] pos2] [] pos) (tLrg2 (aCons ta (aCons tb aNil))) := fun F0 B =>
  PE.imp (pe_listRg hc hg hm (prg_2 hg2 hm2 (ha F0 B) (hb F0 B) na nb (by rw [nb]; rfl)) na2) fun σ H Q ⟨F, E, R, rp, ht, k⟩ => ⟨F, E, _, rp, ht, fun v F1 H1 x E1 s1 r1 p1 h1 => ⟨F1, E1, _, r1, h1, fun w F2 H2 y E2 s2 r2 p2 h2 => by
    have h2 : (match ([x, y] : List D) with | [.int i, .int j] => RgOk i j ∧ R (.lst (rgD i 1 (j - i).toNat)) E2 | _ => False) := h2
    split at h2
    · rename_i i j e
      cases e
      exact ⟨i, j, rep_int p1, rep_int p2, h2.1, fun q hq => k _ F2 _ _ E2 (s1.trans s2) (r2.newO hq) (r2.frO hq (o := .lst _) (x := .lst _) (rg_reps i j)) h2.2⟩
    · exact h2.elim⟩⟩
end
end TQ

namespace TQ
open PySem PySem.Spec PyProof.Rows L2
/-! ### for the runs: items of written lists, loops by an invariant -/
theorem atI_0 {α : Type} {x : α} {l : List α} : atI (x :: l) 0 = some x := by simp [atI, ixN]
theorem atI_1 {α : Type} {x y : α} {l : List α} : atI (x :: y :: l) 1 = some y := by
  have : (1 : Int) < ((x :: y :: l).length : Int) := by simp only [List.length_cons]; omega
  unfold atI ixN
  rw [if_pos (by omega), if_pos this]
  rfl
theorem atI_2 {α : Type} {x y z : α} {l : List α} : atI (x :: y :: z :: l) 2 = some z := by
  have : (2 : Int) < ((x :: y :: z :: l).length : Int) := by simp only [List.length_cons]; omega
  unfold atI ixN
  rw [if_pos (by omega), if_pos this]
  rfl
theorem atI_3 {α : Type} {x y z w : α} {l : List α} : atI (x :: y :: z :: w :: l) 3 = some w := by
  have : (3 : Int) < ((x :: y :: z :: w :: l).length : Int) := by simp only [List.length_cons]; omega
  unfold atI ixN
  rw [if_pos (by omega), if_pos this]
  rfl
theorem atI_m1 {α : Type} {x : α} {l : List α} : atI (l ++ [x]) (-1) = some x := atI_last l x
theorem atI_m2 {α : Type} {x y : α} {l : List α} : atI (l ++ [x, y]) (-2) = some x := by
  unfold atI ixN
  rw [if_neg (by omega), if_pos (by simp; omega)]
  have : (-2 + ((l ++ [x, y]).length : Int)).toNat = l.length := by
    rw [List.length_append]; simp only [List.length_cons, List.length_nil]; omega
  simp only [Option.bind_some, this]
  simp
theorem atI_m1c {α : Type} {x y : α} : atI [x, y] (-1) = some y := rfl
theorem atI_m2c {α : Type} {x y : α} : atI [x, y] (-2) = some x := rfl
theorem atI_nn {α : Type} {l : List α} {i : Int} {x : α} (h0 : 0 ≤ i) (h : l[i.toNat]? = some x) : atI l i = some x := by
  have := atI_nat h
  rwa [Int.toNat_of_nonneg h0] at this
/-- a for by an invariant over the turn's number; KK: what is wanted behind a turn -/
theorem for_inv {g : TGt} {tb : TSt} {N : En} {ds : List D} (I : Nat → SE → Prop) {E : SE} (h0 : I 0 E) (hs : ∀ i x E (KK : SE → Prop), ds[i]? = some x → I i E → (∀ E', I (i + 1) E' → KK E') → g x E fun E2 => tb ⟨KK, N.rt, N.nx, KK⟩ E2) (hd : ∀ E, I ds.length E → N.nx E) : forR g tb ds N E := by
  have key : ∀ (n i : Nat) (E : SE), i + n = ds.length → I i E → forR g tb (ds.drop i) N E := by
    intro n
    induction n with
    | zero =>
      intro i E e h
      have : i = ds.length := by omega
      subst this
      rw [List.drop_length]
      exact hd E h
    | succ n ih =>
      intro i E e h
      have l : i < ds.length := by omega
      rw [List.drop_eq_getElem_cons l]
      exact hs i _ E (fun E3 => forR g tb (ds.drop (i + 1)) N E3) (List.getElem?_eq_getElem l) h fun E' q => ih (i + 1) E' (by omega) q
  simpa using key ds.length 0 E (by omega) h0
theorem for_rg {g : TGt} {tb : TSt} {N : En} {lo : Int} {n : Nat} (I : Nat → SE → Prop) {E : SE} (h0 : I 0 E) (hs : ∀ (i : Nat) E (KK : SE → Prop), i < n → I i E → (∀ E', I (i + 1) E' → KK E') → g (.int (lo + (i : Nat))) E fun E2 => tb ⟨KK, N.rt, N.nx, KK⟩ E2) (hd : ∀ E, I n E → N.nx E) : forR g tb (rgD lo 1 n) N E :=
  for_inv I h0 (fun i x E KK hx hI hK => by
    obtain ⟨l, rfl⟩ := rgD_get hx
    rw [Int.mul_one]
    exact hs i E KK l hI hK) fun E h => hd E (by rwa [rgD_len] at h)
/-- a comprehension by an invariant over the turn's number and what is made so far -/
theorem lc_inv {g : TGt} {tt : TB} {te : TV} {vs : List Nat} {ds : List D} {R : List D → SE → Prop} (I : Nat → List D → SE → Prop) {E : SE} (h0 : I 0 [] E)
    (hs : ∀ i x acc E (KK : List D → SE → Prop), ds[i]? = some x → I i acc E → (∀ acc' E', I (i + 1) acc' E' → KK acc' E') → g x E fun E2 => tt E2 fun b E3 => (b = true → te E3 fun y E4 => KK (acc ++ [y]) (wpE E4 vs)) ∧ (b = false → KK acc (wpE E3 vs)))
    (hd : ∀ acc E, I ds.length acc E → R acc E) : lcR g tt te vs ds [] E R := by
  have key : ∀ (n i : Nat) (acc : List D) (E : SE), i + n = ds.length → I i acc E → lcR g tt te vs (ds.drop i) acc E R := by
    intro n
    induction n with
    | zero =>
      intro i acc E e h
      have : i = ds.length := by omega
      subst this
      rw [List.drop_length]
      exact hd acc E h
    | succ n ih =>
      intro i acc E e h
      have l : i < ds.length := by omega
      rw [List.drop_eq_getElem_cons l]
      exact hs i _ acc E (fun acc' E3 => lcR g tt te vs (ds.drop (i + 1)) acc' E3 R) (List.getElem?_eq_getElem l) h fun acc' E' q => ih (i + 1) acc' E' (by omega) q
  simpa using key ds.length 0 [] E (by omega) h0
/-- a comprehension without a test whose turns leave the state as it is: a map -/
theorem lc_map {g : TGt} {te : TV} {vs : List Nat} {ds : List D} {R : List D → SE → Prop} {E : SE} (f : D → D) (hs : ∀ x (KK : D → SE → Prop) (K2 : SE → Prop), x ∈ ds → (∀ E', wpE E' vs = E → KK (f x) E') → g x E fun E2 => tYs E2 fun b E3 => (b = true → te E3 KK) ∧ (b = false → K2 E3)) (hd : R (ds.map f) E) : lcR g tYs te vs ds [] E R :=
  lc_inv (fun i acc E' => E' = E ∧ acc = (ds.take i).map f) ⟨rfl, rfl⟩ (fun i x acc E' KK hx ⟨e1, e2⟩ hK => by
    subst e1
    have hm : x ∈ ds := List.mem_of_getElem? hx
    have := hs x (fun y E4 => KK (acc ++ [y]) (wpE E4 vs)) (fun E3 => KK acc (wpE E3 vs)) hm fun E'' q => hK _ _ ⟨q, by
      subst e2
      rw [List.take_succ, hx]
      simp⟩
    exact this) fun acc E' ⟨e1, e2⟩ => by
      subst e1; subst e2
      rw [List.take_length]
      exact hd
/-! ### wiring -/
theorem none_left {P : Program} {w : World} {K : PySem.W.Frag} {mg : Str → Option Value} {base : Heap} {k : Nat} {f : Addr} {fd : FuncData} {ps : List Str} : FnOk P w K mg base CX0 k f fd ps (spF K fun _ _ => False) :=
  ⟨fun vs H Q E ⟨_, _, _, _, _, h, _⟩ => h.elim, fun A outer s H args us vs Q E _ _ _ _ ⟨_, _, _, _, _, h, _⟩ => h.elim⟩
theorem kwb_of {K : PySem.W.Frag} {x qual : Str} {st : Stmt} {f : Addr} {fd : FuncData} {ps : List Str} (F : Fun K x qual st f fd)
    (h : ∀ (kV doc pm : Value) (an : Option Addr) (cdv ct : Value) (us : List Value), us.length = ps.length → bindArgs (PySem.W.fnOf x qual (defArgs st) (defBody st) (defScope st) .none kV doc pm an cdv ct) ⟨[], ps.zip us⟩ = pure (ps.zip us)) : KwB fd ps := by
  obtain ⟨oc, od, kV, doc, pm, an, cdv, ct, osl, rfl, lk, hcd⟩ := F.ex
  exact fun s ws hl => .of_eq (h kV doc pm an cdv ct ws hl)
theorem mk_one {K : PySem.W.Frag} {h : Heap} {mg : Str → Option Value} {x qual : Str} {st : Stmt} {f : Addr} {od an : Option Addr} {sl : Array (Option Value)} {oc kV dc pm cd ct : Value} (X : K.In h) (G : h.Ns mainGlobals mg)
    (a : PySem.W.nsIn K mainGlobals x = some (some (.ref f))) (l : K.lookup f = some ⟨oc, od, .func (PySem.W.fnOf x qual (defArgs st) (defBody st) (defScope st) .none kV dc pm an cd ct), sl⟩) (c : PySem.W.codeIn K cd qual = true) (k : PySem.W.keepIn K (.ref f) = true) :
    ∃ f fd, Fun K x qual st f fd ∧ mg x = some (.ref f) := ⟨f, _, fun_mk l c k, PySem.W.mg_of X G a⟩
/-! ### sizes -/
def Sz (n : Nat) (x : Int) : Prop := x.natAbs < 2 ^ n
theorem Sz.mono {a b : Nat} {x : Int} (h : Sz a x) (l : a ≤ b) : Sz b x := Nat.lt_of_lt_of_le h (Nat.pow_le_pow_right (by decide) l)
theorem Sz.of {a : Nat} {x : Int} (h1 : -(2 ^ a) < x) (h2 : x < 2 ^ a) : Sz a x := by
  unfold Sz
  have e : ((2 ^ a : Nat) : Int) = (2 : Int) ^ a := by simp
  omega
theorem Sz.mul {a b : Nat} {x y : Int} (h : Sz a x) (g : Sz b y) : Sz (a + b) (x * y) := wide_lt h g
theorem Sz.add {a : Nat} {x y : Int} (h : Sz a x) (g : Sz a y) : Sz (a + 1) (x + y) := by
  unfold Sz at *
  rw [Nat.pow_succ]
  omega
theorem Sz.sub {a : Nat} {x y : Int} (h : Sz a x) (g : Sz a y) : Sz (a + 1) (x - y) := by
  unfold Sz at *
  rw [Nat.pow_succ]
  omega
theorem Sz.mod {a : Nat} {x m : Int} (h : Sz a m) (h0 : 0 < m) : Sz a (x % m) := by
  unfold Sz at *
  have h1 := Int.emod_nonneg x (show m ≠ 0 by omega)
  have h2 := Int.emod_lt_of_pos x h0
  omega
theorem MulOk.sz {a b : Nat} {x y : Int} (h : Sz a x) (g : Sz b y) (l : a + b + 2 ≤ 1000000 := by decide) : MulOk x y :=
  .inr (wide_mul (h.mono (Nat.le_succ a)) (g.mono (Nat.le_succ b)) (Nat.succ_pos _) (Nat.succ_pos _) (by omega))
theorem MulOk.l {x y : Int} (h : -(2 ^ 64) < x ∧ x < 2 ^ 64) : MulOk x y := .inl (.inl h)
theorem MulOk.r {x y : Int} (h : -(2 ^ 64) < y ∧ y < 2 ^ 64) : MulOk x y := .inl (.inr h)
theorem cdw {x y : Int} (h : 0 < y) (g : y < 2 ^ 64) : CDivW x y := wide_div h (b := 64) (by omega) (by decide) (by decide)
theorem cdwS {x y : Int} {b : Nat} (h : 0 < y) (g : Sz b y) (l : b + 1 ≤ 9000 := by decide) : CDivW x y := wide_div h (g.mono (Nat.le_succ b)) (Nat.succ_pos _) l
end TQ

namespace TQ
open PySem PySem.Spec PyProof.Rows L2
theorem atI_m1d {α : Type} {x y : α} {l : List α} : atI (l ++ [x, y]) (-1) = some y := by
  rw [List.append_cons]; exact atI_last _ y
/-! ### plain data: when == is sameness -/
def plainN : Nat → D → Prop
  | _, .int _ => True
  | _, .str x => PyData.strOk x = true
  | _, .non => True
  | n + 1, .tup ds => ∀ d ∈ ds, plainN n d
  | n + 1, .lst ds => ∀ d ∈ ds, plainN n d
  | _, _ => False
theorem toPs_map : ∀ ds : List D, toPs ds = ds.map toP
  | [] => rfl
  | d :: ds => by rw [toPs, toPs_map ds]; rfl
theorem shaped_all {n : Nat} : ∀ {ds : List D}, (∀ d ∈ ds, (toP d).canLay0 = true ∧ (toP d).depth ≤ n) → PyData.canLayAll0 (toPs ds) = true ∧ PyData.depthAll (toPs ds) ≤ n
  | [], _ => ⟨rfl, Nat.zero_le n⟩
  | d :: ds, h => by
    have h1 := h d (by simp)
    have h2 := shaped_all (ds := ds) fun x hx => h x (List.mem_cons_of_mem _ hx)
    refine ⟨?_, ?_⟩
    · rw [toPs, PyData.canLayAll0, h1.1, h2.1]; rfl
    · rw [toPs, PyData.depthAll]; omega
theorem shaped_plain : ∀ {n : Nat} {d : D}, plainN n d → (toP d).canLay0 = true ∧ (toP d).depth ≤ n
  | n, d, h => by
    induction n generalizing d with
    | zero => cases d <;> first | exact h.elim | exact ⟨rfl, Nat.zero_le _⟩ | exact ⟨h, Nat.zero_le _⟩
    | succ n ih =>
      cases d with
      | int i => exact ⟨rfl, Nat.zero_le _⟩
      | non => exact ⟨rfl, Nat.zero_le _⟩
      | str x => exact ⟨h, Nat.zero_le _⟩
      | tup ds =>
        have := shaped_all (n := n) (ds := ds) fun d hd => ih d (h d hd)
        refine ⟨?_, ?_⟩
        · rw [toP, PyData.canLay0]; exact this.1
        · rw [toP, PyData.depth]; omega
      | lst ds =>
        have := shaped_all (n := n) (ds := ds) fun d hd => ih d (h d hd)
        refine ⟨?_, ?_⟩
        · rw [toP, PyData.canLay0]; exact this.1
        · rw [toP, PyData.depth]; omega
      | _ => exact h.elim
theorem okP_plain {n : Nat} {d : D} (h : plainN n d) (l : n ≤ 64 := by decide) : okP d := by
  obtain ⟨h1, h2⟩ := shaped_plain h
  unfold okP SeqAt.shaped
  rw [h1, decide_eq_true (by omega : (toP d).depth ≤ 64)]; rfl
theorem eqv_all {n : Nat} (ih : ∀ {x y : D}, plainN n x → plainN n y → (PyData.eqv (toP x) (toP y) = true ↔ x = y)) : ∀ {xs ys : List D}, (∀ d ∈ xs, plainN n d) → (∀ d ∈ ys, plainN n d) → (PyData.eqvAll (toPs xs) (toPs ys) = true ↔ xs = ys)
  | [], [], _, _ => by simp [toPs, PyData.eqvAll]
  | [], y :: ys, _, _ => by simp [toPs, PyData.eqvAll]
  | x :: xs, [], _, _ => by simp [toPs, PyData.eqvAll]
  | x :: xs, y :: ys, h, g => by
    have h1 := ih (h x (by simp)) (g y (by simp))
    have h2 := eqv_all ih (xs := xs) (ys := ys) (fun d hd => h d (List.mem_cons_of_mem _ hd)) fun d hd => g d (List.mem_cons_of_mem _ hd)
    rw [toPs, toPs, PyData.eqvAll, Bool.and_eq_true, h1, h2, List.cons.injEq]
theorem eqv_plain : ∀ {n : Nat} {x y : D}, plainN n x → plainN n y → (PyData.eqv (toP x) (toP y) = true ↔ x = y)
  | n, x, y, h, g => by
    induction n generalizing x y with
    | zero => cases x <;> cases y <;> first | exact h.elim | exact g.elim | simp [toP, PyData.eqv]
    | succ n ih =>
      cases x <;> cases y <;> first | exact h.elim | exact g.elim | skip
      all_goals first | (simp [toP, PyData.eqv]; done) | (rw [toP, toP, PyData.eqv, eqv_all (fun {x y} => ih x y) h g]; simp)
theorem eqvD_plain {n : Nat} {x y : D} (h : plainN n x) (g : plainN n y) : eqvD x y = true ↔ x = y := eqv_plain h g
theorem plain_ints {n : Nat} {xs : List Int} : plainN (n + 1) (.lst (xs.map D.int)) ∧ plainN (n + 1) (.tup (xs.map D.int)) := by
  constructor <;>
  · intro d hd
    obtain ⟨i, _, rfl⟩ := List.mem_map.mp hd
    cases n <;> trivial
theorem plainN.le {a b : Nat} {d : D} (h : plainN a d) (l : a ≤ b) : plainN b d := by
  induction a generalizing d b with
  | zero => cases d <;> first | exact h.elim | skip
            all_goals (cases b <;> first | trivial | exact h)
  | succ a ih =>
    cases b with
    | zero => omega
    | succ b =>
      cases d <;> first | exact h.elim | trivial | exact h | skip
      all_goals exact fun d hd => ih (h d hd) (by omega)
end TQ

namespace TQ
open PySem PySem.Spec PyProof.Rows L2
/-! ### the ends of a law -/
/-- as the head wants it, the constants that the top works out handed on -/
theorem walkX {l : PySem.W.OpenLaw} {n k : Nat} {q : Program} {loose : List Str} {XP : (Str → Option Value) → Heap → Prop} {YP : World → Heap → Prop} {d : DefRec} {K : Params → PySem.W.Frag} {S : FS} {x : Str}
    (hn : l.most = some n) (hdf : d.params.defaults = []) (hn2 : n ≤ sizeLine := by decide) (hr : Room k callerA := by exact ⟨rfl, by decide, by decide⟩)
    (hY : ∀ (w : World) (h : Heap), YP w h → (K w.params).In h)
    (hS : ∀ xs : List Int, S [.lst (xs.map D.int)] fun z => z = .bl true)
    (F : ∀ (w : World) (mg : Str → Option Value) (fa : Addr) (h : Heap), (K w.params).In h → h.Ns mainGlobals mg → XP mg h → mg d.name = some (.ref fa) →
      ∃ fd : FuncData, (∀ (s : Shared) (u : Value), BindsTo s fd ⟨[u], []⟩ [(x, u)]) ∧ ∀ base : Heap, FnOk l.prog w (K w.params) mg base CX0 k fa fd [x] (spF (K w.params) S)) :
    PySem.W.WalkO q loose XP YP l.row.toRowW d [] (fun f vs => PySem.call f vs) := by
  refine Att.attach_call hn hdf fun w s₀ s₁ mg mb fa o pm cd doc a vs ns G Y ho hd hcd hmg hobj hints hlen hg => ?_
  have KX := hY w _ Y
  obtain ⟨fd, hb, hF⟩ := F w mg fa _ KX G.T.g G.X hmg
  refine law_call (CX := CX0) (k := k) KX G.T.g G.T.b G.T.builtins G.T.nolimit hg hobj hints (Nat.le_trans hlen hn2) hr (fun base _ _ => hF base) hb (fun H hO hSq => ?_) fun H e s' z => z
  refine ⟨H, [.lst (ns.map D.int)], fun z => z = .bl true, Same.refl H, ?_, hS ns, fun v F' H' x _ _ _ _ p e => ?_⟩
  · refine .cons (.lst hSq ?_) .nil
    clear hSq hlen hints hobj
    induction ns with
    | nil => exact .nil
    | cons n ns ih => exact .cons (.int n) ih
  · subst e
    cases p
    rfl
theorem bind_law {K : PySem.W.Frag} {x qual y : Str} {st : Stmt} {f : Addr} {fd : FuncData} (F : Fun K x qual st f fd)
    (h : ∀ (kV doc pm : Value) (an : Option Addr) (cdv ct u : Value), bindArgs (PySem.W.fnOf x qual (defArgs st) (defBody st) (defScope st) .none kV doc pm an cdv ct) ⟨[u], []⟩ = pure [(y, u)]) : ∀ (s : Shared) (u : Value), BindsTo s fd ⟨[u], []⟩ [(y, u)] := by
  obtain ⟨oc, od, kV, doc, pm, an, cdv, ct, osl, rfl, lk, hcd⟩ := F.ex
  exact fun s u => .of_eq (h kV doc pm an cdv ct u)
theorem loose_int {lv : List (Str × PySem.W.WData)} {mg : Str → Option Value} {h : Heap} {x : Str} {n : Int} (L : PySem.W.LooseAre lv mg h) (m : (x, PySem.W.WData.int n) ∈ lv) : ∃ t, mg x = some (.int n t) := by
  obtain ⟨v, h1, h2⟩ := L.val _ m
  cases h2
  exact ⟨_, h1⟩
theorem con_int {K : PySem.W.Frag} {h : Heap} {mg : Str → Option Value} {x : Str} {n : Int} {t : Nat} (X : K.In h) (G : h.Ns mainGlobals mg) (a : PySem.W.nsIn K mainGlobals x = some (some (.int n t))) : ∃ t, mg x = some (.int n t) :=
  ⟨_, PySem.W.mg_of X G a⟩
end TQ

namespace TQ
open PySem PySem.Spec PyProof.Rows L2
/-! ### a letter of a text -/
def oIxS : O2 := fun x y k => match x, y with
  | .str z, .int i => z.length ≤ 1000 ∧ match atI z.cps.toList i with
    | some c => k (.str ⟨#[c]⟩)
    | none => False
  | _, _ => False
section
variable {X : Cx} {pos : Pos}
theorem o2_ixS : Op2 X rIxS oIxS := fun F0 B F H σ E v u x y k Q r p1 p2 h q => by
  unfold oIxS at h; split at h
  · obtain ⟨hl, h⟩ := h
    split at h
    · rename_i c e
      cases p1
      exact ⟨_, _, c, rfl, rep_int p2, Nat.le_trans hl (by decide), e, q _ F H _ (Same.refl F) r (.str _) h⟩
    · exact h.elim
  · exact h.elim
theorem pv_ixS {a b : Expr} {ta tb : TV} (ha : PV X a ta) (hb : PV X b tb) (hs : PlainIx b := by intro _ _; rfl) : PV X (.Subscript a b pos) (tBin oIxS ta tb) := fun F0 B => PE.imp (pe_ix ix_str (ha F0 B) (hb F0 B) hs) (bin_up o2_ixS)
end
end TQ

namespace TQ
open PySem PySem.Spec PyProof.Rows L2
/-! ### name.extend(a new list) -/
def sXt (i : Nat) (t : TV) : TSt := fun N E => match gt E i with
  | .o (.lst _) => t E fun x E1 => match gt E1 i, x with
    | .o (.lst ds), .lst es => ds.length + es.length ≤ 1000000 ∧ N.nx (pt E1 i (.o (.lst (ds ++ es))))
    | _, _ => False
  | _ => False
section
variable {X : Cx} {e : Expr} {t : TV} {pos : Pos} {md : Md}
theorem pst_ext (i : Nat) {y : Str} {p2 apos : Pos} (he : PF X e t) (hN : X.N[i]? = some y := by rfl) (hv : Vis X.env.scope y := by first | exact Or.inl rfl | exact Or.inr (Or.inl rfl) | exact Or.inr (Or.inr rfl))
    (hs1 : starEach (e :: []) X.env = (false, eval e X.env) :: starEach [] X.env := by rfl) (hd : (y == ("__debug__" : Str)) = false := by decide) (hcd : (y == ("__classdict__" : Str)) = false := by decide) {cpos : Pos}
    (hp : ∀ {ta : TA}, PA X [e] ta → PE X (.Call (.Attribute (.Name y p2) "extend" apos) [e] [] cpos) (tBM X.K "list" rExtend (tVar i) ta)) :
    PSt X md (.Expr (.Call (.Attribute (.Name y p2) "extend" apos) [e] [] cpos) pos) (sXt i t) := fun F0 B =>
  PS.imp (ps_expr (hp (pa_consF he par_nil hs1 F0 B))) fun D σ H ⟨F, E, N, rp, ht, b⟩ => by
    unfold sXt at ht
    split at ht
    · rename_i ds0 e0
      obtain ⟨a, vs0, g1, g2, g3⟩ := own_lst rp e0
      refine ⟨.ref a, g1, .inl ⟨rfl, _, SqL.of g2⟩, F, E, (fun x xs E1 => match xs with
    | [] => match gt E1 i, x with
      | .o (.lst ds), .lst es => ds.length + es.length ≤ 1000000 ∧ N.nx (pt E1 i (.o (.lst (ds ++ es))))
      | _, _ => False
    | _ :: _ => False), rp, ht, fun v vs F1 H1 x xs E1 s1 r1 f1 p1 h1 => ?_⟩
      cases xs with
      | cons _ _ => exact h1.elim
      | nil =>
      simp only [] at h1
      cases p1
      split at h1
      · rename_i ds es e1
        obtain ⟨a', vs, k1, k2, k3⟩ := own_lst r1 e1
        rw [g1] at k1; cases k1
        obtain ⟨c, ho, rfl, q1, q2, q3, q4, q5⟩ := f1
        cases ho <;> simp only [HOR] at q4
        rename_i ws
        refine ⟨a, c, vs, ws, rfl, rfl, k2, q3, by rw [k3.length, q4.length]; exact Nat.le_trans h1.1 (by decide), ?_⟩
        have r2 := r1.mutO (ho := .lst (vs ++ ws)) (x := .lst (ds ++ es)) (gt_o e1) g1 (k3.append q4)
        rw [← pt_set] at r2
        exact b.nx F1 _ σ _ s1 r2 .refl h1.2
      · exact h1.elim
    · exact ht.elim
end
end TQ

namespace TQ
open PySem PySem.Spec PyProof.Rows L2
/-! ### list(range(i, j, c)) -/
def rgV3 (lo c : Int) (n : Nat) : List V := (List.range n).map fun i => V.int (lo + (i : Nat) * c)
theorem vals_rg3 {lo c : Int} {n : Nat} {acc : Array Value} (h : ItemsOf (fun i v => ∃ t, v = .int (lo + i * c) t) acc n) : Vals (rgV3 lo c n) acc.toList := by
  have e : acc.toList.length = n := by rw [Array.length_toList]; exact h.1
  unfold rgV3
  rw [← e]
  refine vals_of_get acc.toList _ fun j u hj => ?_
  obtain ⟨t, rfl⟩ := h.2 j u (by rw [← hj, Array.getElem?_toList])
  exact ⟨t, rfl⟩
def tLstRg3 (ta : TA) : TE := fun σ H Q => ta σ H fun vs H1 => ∃ (i j c : Int) (n : Nat), vs = [.int i, .int j, .int c] ∧ RgC i j c n ∧ n ≤ 1000000 ∧ ∀ q, H1 q = none → Q (.ref q) (upd H1 q (.lst (rgV3 i c n)))
section
variable {X : Cx} {a b c : Expr} {pos pos2 : Pos}
theorem pe_listRg3 {ta : TA} {p p2 : Pos} (hc : X.calm = true) (hg : Gl X "list") (hm : X.mg "list" = none) (hg2 : Gl X "range") (hm2 : X.mg "range" = none) (ha : PA X [a, b, c] ta)
    (hs : starEach [a, b, c] X.env = (false, eval a X.env) :: starEach [b, c] X.env := by rfl) (hpl : (backTo pos2 (starEach [b, c] X.env)).any (·.1) = false := by rfl)
    (na : starEach [.Call (.Name "range" p2) [a, b, c] [] pos2] X.env = (false, eval (.Call (.Name "range" p2) [a, b, c] [] pos2) X.env) :: starEach [] X.env := by rfl) :
    PE X (.Call (.Name "list" p) [.Call (.Name "range" p2) [a, b, c] [] pos2] [] pos) (tLstRg3 ta) := by
  refine ⟨fun pins s σ H Q I h => ?_⟩
  have inner : wpAny (model X.prog X.w) X.A (eval (.Call (.Name "range" p2) [a, b, c] [] pos2) X.env) (fun x s' => ∃ (r : Addr) (i j k : Int) (n : Nat) (t u v : Tok) (H' : Hp), x = .ref r ∧ IsRange s'.heap r i j k t u v ∧ Inv X pins σ H' s' ∧ RgC i j k n ∧ n ≤ 1000000 ∧ ∀ q, H' q = none → Q (.ref q) (upd H' q (.lst (rgV3 i k n)))) X.xe s := by
    refine Call_ (ld_blt I hg2 hm2 boot_range (PyProof.Rows.callWith_type1 (thn (ha.run pos2 pins s σ H _ I h) fun us s1 ⟨vs, H1, I1, r1, q1⟩ => ?_) hs hpl))
    obtain ⟨i, j, k, n, e, ok, nl, q⟩ := q1
    obtain ⟨c0, c1, c2, c3⟩ := id ok
    subst e
    cases r1 with
    | cons r rr =>
      cases rr with
      | cons r' rr =>
        cases rr with
        | cons r'' rr =>
          cases rr
          obtain ⟨t, rfl⟩ := r
          obtain ⟨t', rfl⟩ := r'
          obtain ⟨t'', rfl⟩ := r''
          refine call_range_3 c0 ?_ (.inl (PyProof.noPylong_small c1))
          exact ⟨_, i, j, k, n, _, _, _, H1, rfl, IsRange.new _ _ _ _ _ _ _, I1.kept fun b u e => Heap.get?_push_of_some _ e, ok, nl, q⟩
  refine Call_ (ld_blt I hg hm boot_list (PyProof.Rows.callWith_type1 (args_cons (thn inner fun x s1 ⟨r, i, j, k, n, t, u, v, H1, ex, hr, I1, ok, nl, q⟩ => args_nil ?_) na) na))
  subst ex
  obtain ⟨c0, c1, c2, c3⟩ := ok
  refine call_list_range (n := n) (I1.ok.hd hc) hr c2 c3 (Nat.le_trans nl (by decide)) fun h' tk acc c' hk e' hi => ?_
  refine ⟨.ref s1.heap.objs.size, upd H1 s1.heap.objs.size (.lst (rgV3 i k n)), I1.laid hk (Nat.le_refl _) (show ObjOk X.prog X.w _ _ _ (.lst (rgV3 i k n)) from ⟨?_, acc.toList, c', vals_rg3 hi, ?_⟩), rfl, q _ (I1.hok.fresh (Nat.le_refl _))⟩
  · unfold rgV3; rw [List.length_map, List.length_range, sizeLine_eq]; omega
  · rw [Array.toArray_toList]; exact e'
def tLrg3 (ta : TAr) : TV := fun E R => ta E fun xs E1 => match xs with
  | [.int i, .int j, .int c] => ∃ n, RgC i j c n ∧ n ≤ 1000000 ∧ R (.lst (rgD i c n)) E1
  | _ => False
theorem rg3_reps {K : PySem.W.Frag} {F : Hp} (i c : Int) (n : Nat) : Reps K F (rgV3 i c n) (rgD i c n) := by
  have : rgD i c n = ((List.range n).map fun (m : Nat) => i + (m : Int) * c).map D.int := by
    unfold rgD; rw [List.map_map]; rfl
  rw [this]
  have e : rgV3 i c n = ((List.range n).map fun (m : Nat) => i + (m : Int) * c).map V.int := by
    unfold rgV3; rw [List.map_map]; rfl
  rw [e]
  exact Reps.ofInts _
theorem pf_lrg3 {p p2 : Pos} {ta : TAr} (hm : X.mg "list" = none) (hm2 : X.mg "range" = none) (ha : PAr X [a, b, c] ta) (hc : X.calm = true := by rfl) (hg : Gl X "list" := by rfl) (hg2 : Gl X "range" := by rfl)
    (hs : starEach [a, b, c] X.env = (false, eval a X.env) :: starEach [b, c] X.env := by rfl) (hpl : (backTo pos2 (starEach [b, c] X.env)).any (·.1) = false := by rfl)
    (na : starEach [.Call (.Name "range" p2) [a, b, c] [] pos2] X.env = (false, eval (.Call (.Name "range" p2) [a, b, c] [] pos2) X.env) :: starEach [] X.env := by rfl) :
    PF X (.Call (.Name "list" p) [.Call (.Name "range" p2) [a, b, c] [] pos2] [] pos) (tLrg3 ta) := fun F0 B =>
  PE.imp (pe_listRg3 hc hg hm hg2 hm2 (ha F0 B) hs hpl na) fun σ H Q ⟨F, E, R, rp, ht, k⟩ => ⟨F, E, _, rp, ht, fun vs F1 H1 xs E1 s1 r1 p1 h1 => by
    split at h1
    · rename_i i j c
      obtain ⟨n, ok, nl, h1⟩ := h1
      cases p1 with
      | cons q1 p1 =>
      cases p1 with
      | cons q2 p1 =>
      cases p1 with
      | cons q3 p1 =>
      cases p1
      refine ⟨i, j, c, n, by rw [rep_int q1, rep_int q2, rep_int q3], ok, nl, fun q hq => k _ F1 _ _ E1 s1 (r1.newO hq) (r1.frO hq (o := .lst _) (x := .lst _) (rg3_reps i c n)) h1⟩
    · exact h1.elim⟩
theorem pv_call0 {S : FS} {k : Nat} {x : Str} {ps : List Str} {p : Pos} (C : Cal X.prog X.w X.K X.mg X.base k x ps (spF X.K S)) (hr : Room k X.A) (hg : Gl X x := by rfl) (hdb : (x == ("__debug__" : Str)) = false := by decide) : PV X (.Call (.Name x p) [] [] pos) (tCl S aNil) := fun F0 B => by
  obtain ⟨f, fd, G, b, _, kp, m⟩ := C.ex
  exact PE.imp (pe_call0 G hr hg m kp b .nil pass0 hdb) fun σ H Q q => by
    obtain ⟨F, E, R, rp, ht, k⟩ := call_up σ H Q q
    exact k [] F H [] E (Same.refl F) rp .nil ht
end
end TQ

/-! Rows of second order: identities; numbers by two. Plain Lean. -/
namespace TM
def U (p q : Int) : Nat → Int
  | 0 => 0
  | 1 => 1
  | n + 2 => p * U p q (n + 1) - q * U p q n
def V (p q : Int) : Nat → Int
  | 0 => 2
  | 1 => p
  | n + 2 => p * V p q (n + 1) - q * V p q n
theorem U_0 (p q : Int) : U p q 0 = 0 := rfl
theorem U_1 (p q : Int) : U p q 1 = 1 := rfl
theorem U_2 (p q : Int) : U p q 2 = p := by simp [U]
theorem U_ss (p q : Int) (n : Nat) : U p q (n + 2) = p * U p q (n + 1) - q * U p q n := rfl
theorem V_ss (p q : Int) (n : Nat) : V p q (n + 2) = p * V p q (n + 1) - q * V p q n := rfl
/-- the sum of places -/
theorem U_add (p q : Int) (m : Nat) : ∀ n, U p q (m + n + 1) = U p q (m + 1) * U p q (n + 1) - q * U p q m * U p q n
  | 0 => by simp [U]
  | 1 => by
    show p * U p q (m + 1) - q * U p q m = _
    rw [U_2, U_1]; grind
  | n + 2 => by
    have h1 := U_add p q m n
    have h2 := U_add p q m (n + 1)
    have e1 : U p q (m + (n + 2) + 1) = p * U p q (m + (n + 1) + 1) - q * U p q (m + n + 1) := rfl
    have e2 : U p q (n + 2 + 1) = p * U p q (n + 2) - q * U p q (n + 1) := rfl
    have e3 := U_ss p q n
    have e4 : U p q (n + 1 + 1) = U p q (n + 2) := rfl
    rw [e1, h1, h2, e2, e4]
    grind
theorem V_eq (p q : Int) : ∀ n, V p q n = 2 * U p q (n + 1) - p * U p q n
  | 0 => by simp [V, U]
  | 1 => by show p = 2 * U p q 2 - p * U p q 1; rw [U_2, U_1]; grind
  | n + 2 => by
    have h1 := V_eq p q n
    have h2 := V_eq p q (n + 1)
    have e1 : U p q (n + 2 + 1) = p * U p q (n + 2) - q * U p q (n + 1) := rfl
    have e4 : U p q (n + 1 + 1) = U p q (n + 2) := rfl
    have e3 := U_ss p q n
    rw [V_ss, h1, h2, e1, e4]
    grind
theorem U_dbl1 (p q : Int) (n : Nat) : U p q (2 * n + 1) = U p q (n + 1) * U p q (n + 1) - q * U p q n * U p q n := by
  rw [Nat.two_mul]; exact U_add p q n n
theorem U_dbl (p q : Int) : ∀ n, U p q (2 * n) = U p q n * (2 * U p q (n + 1) - p * U p q n)
  | 0 => by simp [U]
  | n + 1 => by
    have h := U_add p q (n + 1) n
    have e : 2 * (n + 1) = n + 1 + n + 1 := by omega
    have e2 : U p q (n + 1 + 1) = p * U p q (n + 1) - q * U p q n := rfl
    rw [e, h, e2]
    grind
/-- the digits of a number by two, the least first -/
def bitsL (n : Nat) : List Nat := if h : n = 0 then [] else n % 2 :: bitsL (n / 2)
decreasing_by omega
theorem bitsL_0 : bitsL 0 = [] := by rw [bitsL]; simp
theorem bitsL_s {n : Nat} (h : n ≠ 0) : bitsL n = n % 2 :: bitsL (n / 2) := by rw [bitsL]; simp [h]
def horner (l : List Nat) : Nat := l.foldl (fun k d => 2 * k + d) 0
theorem horner_bits (n : Nat) : horner (bitsL n).reverse = n := by
  induction n using Nat.strongRecOn with
  | ind n ih =>
    by_cases h : n = 0
    · subst h; rw [bitsL_0]; rfl
    · rw [bitsL_s h, List.reverse_cons]
      unfold horner at ih ⊢
      rw [List.foldl_append, ih (n / 2) (by omega)]
      show 2 * (n / 2) + n % 2 = n
      omega
theorem bits_lt {n : Nat} : ∀ {d}, d ∈ bitsL n → d < 2 := by
  induction n using Nat.strongRecOn with
  | ind n ih =>
    intro d hd
    by_cases h : n = 0
    · subst h; rw [bitsL_0] at hd; cases hd
    · rw [bitsL_s h] at hd
      rcases List.mem_cons.mp hd with rfl | hd
      · omega
      · exact ih (n / 2) (by omega) hd
theorem bits_len {n k : Nat} (h : n < 2 ^ k) : (bitsL n).length ≤ k := by
  induction k generalizing n with
  | zero =>
    have : n = 0 := by simpa using h
    subst this; rw [bitsL_0]; simp
  | succ k ih =>
    by_cases z : n = 0
    · subst z; rw [bitsL_0]; simp
    · rw [bitsL_s z, List.length_cons]
      have := ih (n := n / 2) (by rw [Nat.pow_succ] at h; omega)
      omega
end TM

/-! Primes, what divides; numbers prime to one another. Plain Lean. -/
namespace TM
def Pr (l : Nat) : Prop := 2 ≤ l ∧ ∀ d, d ∣ l → d = 1 ∨ d = l
theorem Pr.two_le {l : Nat} (h : Pr l) : 2 ≤ l := h.1
theorem Pr.pos {l : Nat} (h : Pr l) : 0 < l := by have := h.1; omega
theorem Pr.coprime {l n : Nat} (h : Pr l) (hn : ¬ l ∣ n) : Nat.Coprime l n := by
  rcases h.2 (Nat.gcd l n) (Nat.gcd_dvd_left l n) with e | e
  · exact e
  · exact absurd (e ▸ Nat.gcd_dvd_right l n) hn
theorem Pr.dvd_mul {l a b : Nat} (h : Pr l) (hd : l ∣ a * b) : l ∣ a ∨ l ∣ b := by
  by_cases q : l ∣ a
  · exact .inl q
  · exact .inr ((h.coprime q).dvd_of_dvd_mul_left hd)
theorem Pr.dvd_pow {l a : Nat} (h : Pr l) : ∀ {k : Nat}, l ∣ a ^ k → l ∣ a
  | 0, hd => by
    rw [Nat.pow_zero] at hd
    have := Nat.le_of_dvd (by decide) hd
    have := h.1
    omega
  | k + 1, hd => by
    rw [Nat.pow_succ] at hd
    rcases h.dvd_mul hd with q | q
    · exact h.dvd_pow q
    · exact q
theorem Pr.dvd_pr {l m : Nat} (h : Pr l) (g : Pr m) (hd : l ∣ m) : l = m := by
  rcases g.2 l hd with e | e
  · have := h.1; omega
  · exact e
theorem exists_pr {n : Nat} (h : 2 ≤ n) : ∃ l, Pr l ∧ l ∣ n := by
  induction n using Nat.strongRecOn with
  | ind n ih =>
    by_cases q : ∃ d, d ∣ n ∧ d ≠ 1 ∧ d ≠ n
    · obtain ⟨d, hd, h1, h2⟩ := q
      have le := Nat.le_of_dvd (by omega) hd
      have d0 : d ≠ 0 := by rintro rfl; rw [Nat.zero_dvd] at hd; omega
      obtain ⟨l, hl, hd'⟩ := ih d (by omega) (by omega)
      exact ⟨l, hl, Nat.dvd_trans hd' hd⟩
    · refine ⟨n, ⟨h, fun d hd => ?_⟩, Nat.dvd_refl n⟩
      by_cases e1 : d = 1
      · exact .inl e1
      · by_cases e2 : d = n
        · exact .inr e2
        · exact absurd ⟨d, hd, e1, e2⟩ q
/-- divisors with the whole: a proper divisor leaves a prime -/
theorem proper_pr {g r : Nat} (hr : 0 < r) (h : g ∣ r) (n : g ≠ r) : ∃ l, Pr l ∧ l ∣ r ∧ g ∣ r / l := by
  obtain ⟨k, rfl⟩ := h
  have k0 : k ≠ 0 := by rintro rfl; simp at hr
  have k1 : k ≠ 1 := by rintro rfl; simp at n
  obtain ⟨l, hl, c, rfl⟩ := exists_pr (n := k) (by omega)
  refine ⟨l, hl, ⟨g * c, by rw [Nat.mul_left_comm]⟩, ?_⟩
  rw [show g * (l * c) = l * (g * c) by rw [Nat.mul_left_comm], Nat.mul_div_cancel_left _ hl.pos]
  exact ⟨c, rfl⟩
theorem coprime_of_pr {a b : Nat} (h : ∀ l, Pr l → l ∣ a → ¬ l ∣ b) (n : a ≠ 0 ∨ b ≠ 0) : Nat.Coprime a b := by
  by_cases g : Nat.gcd a b = 1
  · exact g
  · have g0 : Nat.gcd a b ≠ 0 := by
      intro e
      have := Nat.gcd_eq_zero_iff.mp e
      omega
    obtain ⟨l, hl, hd⟩ := exists_pr (n := Nat.gcd a b) (by omega)
    exact absurd (Nat.dvd_trans hd (Nat.gcd_dvd_right a b)) (h l hl (Nat.dvd_trans hd (Nat.gcd_dvd_left a b)))
theorem Pr.of_no_small {n : Nat} (h : 2 ≤ n) (hn : ∀ d, 2 ≤ d → d * d ≤ n → ¬ d ∣ n) : Pr n := by
  refine ⟨h, fun d hd => ?_⟩
  obtain ⟨c, rfl⟩ := hd
  by_cases d1 : d = 1
  · exact .inl d1
  by_cases c1 : c = 1
  · right; rw [c1, Nat.mul_one]
  exfalso
  have d0 : d ≠ 0 := by rintro rfl; simp at h
  have c0 : c ≠ 0 := by rintro rfl; simp at h
  rcases Nat.le_total d c with l | l
  · exact hn d (by omega) (Nat.mul_le_mul_left d l) ⟨c, rfl⟩
  · exact hn c (by omega) (Nat.mul_le_mul_right c l) ⟨d, Nat.mul_comm _ _⟩
/-! a list of primes with how often, ascending, that multiplies to n -/
def prodF : List (Nat × Nat) → Nat
  | [] => 1
  | (l, e) :: r => l ^ e * prodF r
theorem prodF_append : ∀ (a b : List (Nat × Nat)), prodF (a ++ b) = prodF a * prodF b
  | [], b => by simp [prodF]
  | (l, e) :: a, b => by simp [prodF, prodF_append a b, Nat.mul_assoc]
structure IsFac (n : Nat) (l : List (Nat × Nat)) : Prop where
  prod : prodF l = n
  pr : ∀ x ∈ l, Pr x.1 ∧ 1 ≤ x.2
  asc : l.Pairwise (fun x y => x.1 < y.1)
theorem prodF_dvd {n l : Nat} (h : Pr l) : ∀ {L : List (Nat × Nat)}, (∀ x ∈ L, Pr x.1 ∧ 1 ≤ x.2) → l ∣ prodF L → ∃ e, (l, e) ∈ L
  | [], _, hd => by
    have := Nat.le_of_dvd (by decide) (show l ∣ 1 from hd)
    have := h.1
    omega
  | (m, e) :: r, hp, hd => by
    rcases h.dvd_mul (show l ∣ m ^ e * prodF r from hd) with q | q
    · have q := h.dvd_pow q
      have := h.dvd_pr (hp (m, e) (by simp)).1 q
      subst this
      exact ⟨e, by simp⟩
    · obtain ⟨e', he⟩ := prodF_dvd (n := n) h (fun x hx => hp x (List.mem_cons_of_mem _ hx)) q
      exact ⟨e', List.mem_cons_of_mem _ he⟩
theorem prodF_pos : ∀ {L : List (Nat × Nat)}, (∀ x ∈ L, Pr x.1 ∧ 1 ≤ x.2) → 0 < prodF L
  | [], _ => Nat.one_pos
  | (m, e) :: r, h => Nat.mul_pos (Nat.pow_pos (h (m, e) (by simp)).1.pos) (prodF_pos fun x hx => h x (List.mem_cons_of_mem _ hx))
theorem IsFac.pos {n : Nat} {l : List (Nat × Nat)} (h : IsFac n l) : 0 < n := h.prod ▸ prodF_pos h.pr
theorem IsFac.mem_dvd {n : Nat} {L : List (Nat × Nat)} (h : IsFac n L) {l e : Nat} (hm : (l, e) ∈ L) : l ^ e ∣ n := by
  rw [← h.prod]
  obtain ⟨a, b, rfl⟩ := List.append_of_mem hm
  rw [prodF_append]
  exact Nat.dvd_trans ⟨prodF b, rfl⟩ ⟨prodF a, Nat.mul_comm _ _⟩
theorem IsFac.dvd_mem {n : Nat} {L : List (Nat × Nat)} (h : IsFac n L) {l : Nat} (hl : Pr l) (hd : l ∣ n) : ∃ e, (l, e) ∈ L :=
  prodF_dvd (n := n) hl h.pr (h.prod ▸ hd)
/-- the parts ahead are prime to the one that comes -/
theorem IsFac.coprime {n : Nat} {a b : List (Nat × Nat)} {l e : Nat} (h : IsFac n (a ++ (l, e) :: b)) : Nat.Coprime (prodF a) (l ^ e) := by
  have hl := (h.pr (l, e) (by simp)).1
  refine Nat.Coprime.pow_right e (Nat.Coprime.symm (hl.coprime fun hd => ?_))
  obtain ⟨e', he⟩ := prodF_dvd (n := n) hl (fun x hx => h.pr x (by simp [hx])) hd
  have := (List.pairwise_append.mp h.asc).2.2 (l, e') he (l, e) (by simp)
  exact Nat.lt_irrefl _ this
theorem IsFac.unique : ∀ {n : Nat} {a b : List (Nat × Nat)}, IsFac n a → IsFac n b → a = b := by
  intro n a
  induction a generalizing n with
  | nil =>
    intro b ha hb
    cases b with
    | nil => rfl
    | cons y b =>
      exfalso
      have h1 : n = 1 := ha.prod.symm
      have h2 := (hb.pr y (by simp))
      have := hb.mem_dvd (l := y.1) (e := y.2) (by simp)
      rw [h1] at this
      have h3 := Nat.le_of_dvd (by decide) (Nat.dvd_trans (Nat.dvd_trans (by rw [Nat.pow_one]; exact Nat.dvd_refl _) (Nat.pow_dvd_pow y.1 h2.2)) this)
      have := h2.1.1
      omega
  | cons x a ih =>
    intro b ha hb
    cases b with
    | nil =>
      exfalso
      have h1 : n = 1 := hb.prod.symm
      have h2 := (ha.pr x (by simp))
      have := ha.mem_dvd (l := x.1) (e := x.2) (by simp)
      rw [h1] at this
      have h3 := Nat.le_of_dvd (by decide) (Nat.dvd_trans (Nat.dvd_trans (by rw [Nat.pow_one]; exact Nat.dvd_refl _) (Nat.pow_dvd_pow x.1 h2.2)) this)
      have := h2.1.1
      omega
    | cons y b =>
      obtain ⟨l, e⟩ := x
      obtain ⟨m, f⟩ := y
      have pa := (ha.pr (l, e) (by simp))
      have pb := (hb.pr (m, f) (by simp))
      have dl : l ∣ n := Nat.dvd_trans (by have := Nat.pow_dvd_pow l pa.2; rwa [Nat.pow_one] at this) (ha.mem_dvd (l := l) (e := e) (by simp))
      have dm : m ∣ n := Nat.dvd_trans (by have := Nat.pow_dvd_pow m pb.2; rwa [Nat.pow_one] at this) (hb.mem_dvd (l := m) (e := f) (by simp))
      have e1 : l = m := by
        obtain ⟨e', h1⟩ := hb.dvd_mem pa.1 dl
        obtain ⟨f', h2⟩ := ha.dvd_mem pb.1 dm
        have a1 := List.pairwise_cons.mp ha.asc
        have b1 := List.pairwise_cons.mp hb.asc
        rcases List.mem_cons.mp h1 with q | q
        · cases q; rfl
        rcases List.mem_cons.mp h2 with q' | q'
        · cases q'; rfl
        have x1 := b1.1 _ q
        have x2 := a1.1 _ q'
        simp only at x1 x2
        omega
      subst e1
      have ca : IsFac (prodF a) a := ⟨rfl, fun x hx => ha.pr x (List.mem_cons_of_mem _ hx), (List.pairwise_cons.mp ha.asc).2⟩
      have cb : IsFac (prodF b) b := ⟨rfl, fun x hx => hb.pr x (List.mem_cons_of_mem _ hx), (List.pairwise_cons.mp hb.asc).2⟩
      have na : ¬ l ∣ prodF a := fun hd => by
        obtain ⟨e', he⟩ := prodF_dvd (n := n) pa.1 ca.pr hd
        exact Nat.lt_irrefl l ((List.pairwise_cons.mp ha.asc).1 (l, e') he)
      have nb : ¬ l ∣ prodF b := fun hd => by
        obtain ⟨e', he⟩ := prodF_dvd (n := n) pb.1 cb.pr hd
        exact Nat.lt_irrefl l ((List.pairwise_cons.mp hb.asc).1 (l, e') he)
      have pe : l ^ e * prodF a = l ^ f * prodF b := ha.prod.trans hb.prod.symm
      have ef : e = f := by
        rcases Nat.lt_trichotomy e f with q | q | q
        · exfalso
          have : l ^ f = l ^ e * l ^ (f - e) := by rw [← Nat.pow_add]; congr 1; omega
          rw [this, Nat.mul_assoc] at pe
          have := Nat.eq_of_mul_eq_mul_left (Nat.pow_pos pa.1.pos) pe
          refine na (this ▸ ?_)
          exact Nat.dvd_trans (by have := Nat.pow_dvd_pow l (show 1 ≤ f - e by omega); rwa [Nat.pow_one] at this) ⟨prodF b, rfl⟩
        · exact q
        · exfalso
          have : l ^ e = l ^ f * l ^ (e - f) := by rw [← Nat.pow_add]; congr 1; omega
          rw [this, Nat.mul_assoc] at pe
          have := Nat.eq_of_mul_eq_mul_left (Nat.pow_pos pa.1.pos) pe
          refine nb (this ▸ ?_)
          exact Nat.dvd_trans (by have := Nat.pow_dvd_pow l (show 1 ≤ e - f by omega); rwa [Nat.pow_one] at this) ⟨prodF a, rfl⟩
      subst ef
      have := Nat.eq_of_mul_eq_mul_left (Nat.pow_pos pa.1.pos) pe
      rw [ih ca (this ▸ cb)]
end TM

/-! First places. -/
namespace TM
/-- m divides the n-th term -/
def Dv (p q : Int) (m n : Nat) : Prop := (m : Int) ∣ U p q n
def Cop (m : Nat) (q : Int) : Prop := Nat.Coprime m q.natAbs
theorem Dv.zero {p q : Int} {m : Nat} : Dv p q m 0 := ⟨0, by simp [U]⟩
/-- u(n+1)^2 - p u(n) u(n+1) + q u(n)^2 = q^n -/
theorem U_norm (p q : Int) : ∀ n, U p q (n + 1) * U p q (n + 1) - p * U p q n * U p q (n + 1) + q * U p q n * U p q n = q ^ n
  | 0 => by simp [U]
  | n + 1 => by
    have h := U_norm p q n
    have e : U p q (n + 1 + 1) = p * U p q (n + 1) - q * U p q n := rfl
    rw [e, Int.pow_succ, ← h]
    grind
theorem cop_dvd {m : Nat} {a b : Int} (h : Nat.Coprime m a.natAbs) (hd : (m : Int) ∣ a * b) : (m : Int) ∣ b := by
  have : m ∣ a.natAbs * b.natAbs := by
    rw [← Int.natAbs_mul]
    exact Int.ofNat_dvd_left.mp hd
  exact Int.ofNat_dvd_left.mpr (h.dvd_of_dvd_mul_left this)
theorem cop_of_pr {m : Nat} {a : Int} (hm : m ≠ 0) (h : ∀ l, Pr l → l ∣ m → ¬ (l : Int) ∣ a) : Nat.Coprime m a.natAbs :=
  coprime_of_pr (fun l hl hd hd' => h l hl hd (Int.ofNat_dvd_left.mpr hd')) (.inl hm)
theorem Pr.dvd_mulI {l : Nat} {a b : Int} (h : Pr l) (hd : (l : Int) ∣ a * b) : (l : Int) ∣ a ∨ (l : Int) ∣ b := by
  have : l ∣ a.natAbs * b.natAbs := by rw [← Int.natAbs_mul]; exact Int.ofNat_dvd_left.mp hd
  rcases h.dvd_mul this with q | q
  · exact .inl (Int.ofNat_dvd_left.mpr q)
  · exact .inr (Int.ofNat_dvd_left.mpr q)
theorem Pr.dvd_powI {l : Nat} {a : Int} {k : Nat} (h : Pr l) (hd : (l : Int) ∣ a ^ k) : (l : Int) ∣ a := by
  have : l ∣ a.natAbs ^ k := by rw [← Int.natAbs_pow]; exact Int.ofNat_dvd_left.mp hd
  exact Int.ofNat_dvd_left.mpr (h.dvd_pow this)
/-- behind a divided term stands one prime to m -/
theorem Dv.cop {p q : Int} {m n : Nat} (hm : m ≠ 0) (hq : Cop m q) (h : Dv p q m n) : Nat.Coprime m (U p q (n + 1)).natAbs := by
  refine cop_of_pr hm fun l hl hlm hd => ?_
  have h1 : (l : Int) ∣ U p q n := Int.dvd_trans (Int.natCast_dvd_natCast.mpr hlm) h
  have h2 : (l : Int) ∣ q ^ n := by
    rw [← U_norm p q n]
    exact Int.dvd_add (Int.dvd_sub (Int.dvd_mul_of_dvd_left hd) (Int.dvd_mul_of_dvd_right hd)) (Int.dvd_mul_of_dvd_right h1)
  have h3 := hl.dvd_powI h2
  have h4 : l ∣ Nat.gcd m q.natAbs := Nat.dvd_gcd hlm (Int.ofNat_dvd_left.mp h3)
  rw [hq] at h4
  have := Nat.le_of_dvd (by decide) h4
  have := hl.1
  omega
theorem Dv.add {p q : Int} {m a b : Nat} (ha : Dv p q m a) (hb : Dv p q m b) : Dv p q m (a + b) := by
  cases b with
  | zero => exact ha
  | succ b =>
    show (m : Int) ∣ U p q (a + b + 1)
    rw [U_add]
    exact Int.dvd_sub (Int.dvd_mul_of_dvd_right hb) (by rw [Int.mul_assoc]; exact Int.dvd_mul_of_dvd_right (Int.dvd_mul_of_dvd_left ha))
theorem Dv.sub {p q : Int} {m a b : Nat} (hm : m ≠ 0) (hq : Cop m q) (ha : Dv p q m a) (hab : Dv p q m (a + b)) : Dv p q m b := by
  cases b with
  | zero => exact .zero
  | succ b =>
    have hab : (m : Int) ∣ U p q (a + b + 1) := hab
    rw [U_add] at hab
    have h1 : (m : Int) ∣ q * U p q a * U p q b := by rw [Int.mul_assoc]; exact Int.dvd_mul_of_dvd_right (Int.dvd_mul_of_dvd_left ha)
    have h2 := Int.dvd_add hab h1
    rw [Int.sub_add_cancel] at h2
    exact cop_dvd (ha.cop hm hq) h2
theorem Dv.mul {p q : Int} {m a : Nat} (ha : Dv p q m a) : ∀ k, Dv p q m (a * k)
  | 0 => .zero
  | k + 1 => by rw [Nat.mul_succ]; exact (ha.mul k).add ha
theorem Dv.dvd {p q : Int} {m a b : Nat} (ha : Dv p q m a) (h : a ∣ b) : Dv p q m b := by
  obtain ⟨k, rfl⟩ := h
  exact ha.mul k
theorem Dv.mod {p q : Int} {m a b : Nat} (hm : m ≠ 0) (hq : Cop m q) (ha : Dv p q m a) (hb : Dv p q m b) : Dv p q m (b % a) := by
  have : a * (b / a) + b % a = b := Nat.div_add_mod b a
  exact (ha.mul (b / a)).sub hm hq (this.symm ▸ hb)
/-- r is the first place of m: m divides just the terms of its multiples -/
structure IsRk (p q : Int) (m r : Nat) : Prop where
  pos : 0 < r
  iff : ∀ n, Dv p q m n ↔ r ∣ n
theorem IsRk.dv {p q : Int} {m r : Nat} (h : IsRk p q m r) : Dv p q m r := (h.iff r).mpr (Nat.dvd_refl r)
theorem IsRk.unique {p q : Int} {m r s : Nat} (h : IsRk p q m r) (g : IsRk p q m s) : r = s :=
  Nat.dvd_antisymm ((h.iff s).mp g.dv) ((g.iff r).mp h.dv)
theorem IsRk.least {p q : Int} {m r n : Nat} (h : IsRk p q m r) (n0 : 0 < n) (hn : Dv p q m n) : r ≤ n := Nat.le_of_dvd n0 ((h.iff n).mp hn)
theorem IsRk.of_least {p q : Int} {m r : Nat} (hm : m ≠ 0) (hq : Cop m q) (pos : 0 < r) (h : Dv p q m r) (l : ∀ n, 0 < n → Dv p q m n → r ≤ n) : IsRk p q m r := by
  refine ⟨pos, fun n => ⟨fun hn => ?_, fun hd => h.dvd hd⟩⟩
  have := Dv.mod hm hq h hn
  rcases Nat.eq_zero_or_pos (n % r) with e | e
  · exact Nat.dvd_of_mod_eq_zero e
  · have h1 := l _ e this
    have h2 := Nat.mod_lt n pos
    omega
theorem least_of {P : Nat → Prop} {n : Nat} (h : P n) : ∃ m, P m ∧ ∀ k, P k → m ≤ k := by
  induction n using Nat.strongRecOn with
  | ind n ih =>
    by_cases q : ∃ k, k < n ∧ P k
    · obtain ⟨k, hk, hp⟩ := q
      exact ih k hk hp
    · exact ⟨n, h, fun k hk => Nat.le_of_not_lt fun l => q ⟨k, l, hk⟩⟩
/-- what divides a term at all has a first place -/
theorem IsRk.exist {p q : Int} {m n : Nat} (hm : m ≠ 0) (hq : Cop m q) (n0 : 0 < n) (h : Dv p q m n) : ∃ r, IsRk p q m r := by
  obtain ⟨r, ⟨r0, hr⟩, l⟩ := least_of (P := fun n => 0 < n ∧ Dv p q m n) ⟨n0, h⟩
  exact ⟨r, .of_least hm hq r0 hr fun n a b => l n ⟨a, b⟩⟩
/-- a place whose parts by its primes are no places -/
theorem IsRk.of_primes {p q : Int} {m r : Nat} (hm : m ≠ 0) (hq : Cop m q) (pos : 0 < r) (h : Dv p q m r) (l : ∀ x, Pr x → x ∣ r → ¬ Dv p q m (r / x)) : IsRk p q m r := by
  obtain ⟨g, hg⟩ := IsRk.exist hm hq pos h
  by_cases e : g = r
  · exact e ▸ hg
  · obtain ⟨x, hx, h1, h2⟩ := proper_pr pos ((hg.iff r).mp h) e
    exact absurd ((hg.iff _).mpr h2) (l x hx h1)
theorem Cop.dvd {m n : Nat} {q : Int} (h : Cop n q) (hd : m ∣ n) : Cop m q := Nat.Coprime.coprime_dvd_left hd h
/-- numbers prime to one another -/
theorem IsRk.mul {p q : Int} {m n r s : Nat} (h : IsRk p q m r) (g : IsRk p q n s) (c : Nat.Coprime m n) : IsRk p q (m * n) (Nat.lcm r s) := by
  refine ⟨Nat.lcm_pos h.pos g.pos, fun k => ?_⟩
  have : Dv p q (m * n) k ↔ Dv p q m k ∧ Dv p q n k := by
    unfold Dv
    constructor
    · intro hd
      exact ⟨Int.dvd_trans ⟨(n : Int), by simp⟩ hd, Int.dvd_trans ⟨(m : Int), by rw [Int.natCast_mul, Int.mul_comm]⟩ hd⟩
    · rintro ⟨a, b⟩
      exact Int.ofNat_dvd_left.mpr (c.mul_dvd_of_dvd_of_dvd (Int.ofNat_dvd_left.mp a) (Int.ofNat_dvd_left.mp b))
  rw [this, h.iff, g.iff]
  exact ⟨fun ⟨a, b⟩ => Nat.lcm_dvd a b, fun hd => ⟨Nat.dvd_trans (Nat.dvd_lcm_left r s) hd, Nat.dvd_trans (Nat.dvd_lcm_right r s) hd⟩⟩
theorem IsRk.one (p q : Int) : IsRk p q 1 1 := ⟨Nat.one_pos, fun n => ⟨fun _ => Nat.one_dvd n, fun _ => ⟨U p q n, by simp⟩⟩⟩
theorem IsRk.mono {p q : Int} {m n r s : Nat} (h : IsRk p q m r) (g : IsRk p q n s) (d : m ∣ n) : r ∣ s :=
  (h.iff s).mp (Int.dvd_trans (Int.natCast_dvd_natCast.mpr d) g.dv)
end TM

/-! Powers by a prime; which place a prime divides. -/
namespace TM
def ch : Nat → Nat → Nat
  | _, 0 => 1
  | 0, _ + 1 => 0
  | n + 1, k + 1 => ch n k + ch n (k + 1)
theorem ch_big : ∀ {n k : Nat}, n < k → ch n k = 0
  | 0, k + 1, _ => rfl
  | n + 1, k + 1, h => by rw [ch, ch_big (n := n) (k := k) (by omega), ch_big (n := n) (k := k + 1) (by omega)]
theorem ch_self : ∀ n, ch n n = 1
  | 0 => rfl
  | n + 1 => by rw [ch, ch_self n, ch_big (by omega)]
theorem ch_zero (n : Nat) : ch n 0 = 1 := by cases n <;> rfl
theorem ch_mul : ∀ n k, (k + 1) * ch (n + 1) (k + 1) = (n + 1) * ch n k
  | 0, 0 => rfl
  | 0, k + 1 => by rw [ch_big (n := 0 + 1) (k := k + 1 + 1) (by omega), ch_big (n := 0) (k := k + 1) (by omega), Nat.mul_zero, Nat.mul_zero]
  | n + 1, 0 => by
    have := ch_mul n 0
    have e : ch (n + 1 + 1) (0 + 1) = ch (n + 1) 0 + ch (n + 1) (0 + 1) := rfl
    rw [e, ch_zero]
    rw [ch_zero] at this
    omega
  | n + 1, k + 1 => by
    have h1 := ch_mul n k
    have h2 := ch_mul n (k + 1)
    have e : ch (n + 1 + 1) (k + 1 + 1) = ch (n + 1) (k + 1) + ch (n + 1) (k + 1 + 1) := rfl
    have e2 : ch (n + 1) (k + 1) = ch n k + ch n (k + 1) := rfl
    rw [e, Nat.mul_add, h2]
    have : (k + 1 + 1) * ch (n + 1) (k + 1) = (n + 1) * ch n k + ch (n + 1) (k + 1) := by rw [Nat.succ_mul, h1]
    rw [this, e2]
    grind
theorem ch_dvd {l k : Nat} (h : Pr l) (k0 : 0 < k) (kl : k < l) : l ∣ ch l k := by
  obtain ⟨n, rfl⟩ : ∃ n, l = n + 1 := ⟨l - 1, by have := h.1; omega⟩
  obtain ⟨j, rfl⟩ : ∃ j, k = j + 1 := ⟨k - 1, by omega⟩
  have hd : (n + 1) ∣ (j + 1) * ch (n + 1) (j + 1) := ⟨ch n j, ch_mul n j⟩
  rcases h.dvd_mul hd with q | q
  · have := Nat.le_of_dvd (by omega) q
    omega
  · exact q
def sumTo : Nat → (Nat → Int) → Int
  | 0, _ => 0
  | k + 1, f => sumTo k f + f k
theorem sumTo_front (f : Nat → Int) : ∀ k, sumTo (k + 1) f = f 0 + sumTo k (fun j => f (j + 1))
  | 0 => by simp [sumTo]
  | k + 1 => by
    rw [sumTo, sumTo_front f k, sumTo]
    omega
theorem sumTo_congr {f g : Nat → Int} : ∀ {k}, (∀ j, j < k → f j = g j) → sumTo k f = sumTo k g
  | 0, _ => rfl
  | k + 1, h => by rw [sumTo, sumTo, sumTo_congr (k := k) (fun j hj => h j (by omega)), h k (by omega)]
theorem sumTo_add (f g : Nat → Int) : ∀ k, sumTo k (fun j => f j + g j) = sumTo k f + sumTo k g
  | 0 => rfl
  | k + 1 => by rw [sumTo, sumTo, sumTo, sumTo_add f g k]; omega
theorem sumTo_mul (c : Int) (f : Nat → Int) : ∀ k, sumTo k (fun j => c * f j) = c * sumTo k f
  | 0 => by simp [sumTo]
  | k + 1 => by rw [sumTo, sumTo, sumTo_mul c f k, Int.mul_add]
theorem sumTo_dvd {m : Int} {f : Nat → Int} : ∀ {k}, (∀ j, j < k → m ∣ f j) → m ∣ sumTo k f
  | 0, _ => ⟨0, by simp [sumTo]⟩
  | k + 1, h => Int.dvd_add (sumTo_dvd (k := k) fun j hj => h j (by omega)) (h k (by omega))
def S (p : Int) (n : Nat) (f : Nat → Int) : Int := sumTo (n + 1) fun j => (ch n j : Int) * p ^ (n - j) * f j
theorem S_succ (p : Int) (n : Nat) (f : Nat → Int) : S p (n + 1) f = p * S p n f + S p n (fun j => f (j + 1)) := by
  unfold S
  rw [sumTo_front]
  have h1 : sumTo (n + 1) (fun j => (ch (n + 1) (j + 1) : Int) * p ^ (n + 1 - (j + 1)) * f (j + 1))
      = sumTo (n + 1) (fun j => (ch n j : Int) * p ^ (n - j) * f (j + 1)) + sumTo (n + 1) (fun j => (ch n (j + 1) : Int) * p ^ (n - j) * f (j + 1)) := by
    rw [← sumTo_add]
    apply sumTo_congr
    intro j _
    have e : n + 1 - (j + 1) = n - j := by omega
    rw [e, ch, Int.natCast_add]
    grind
  rw [h1]
  have h2 : p * sumTo (n + 1) (fun j => (ch n j : Int) * p ^ (n - j) * f j) = (ch (n + 1) 0 : Int) * p ^ (n + 1 - 0) * f 0 + sumTo (n + 1) (fun j => (ch n (j + 1) : Int) * p ^ (n - j) * f (j + 1)) := by
    rw [← sumTo_mul, sumTo_front, sumTo]
    have e0 : p * ((ch n 0 : Int) * p ^ (n - 0) * f 0) = (ch (n + 1) 0 : Int) * p ^ (n + 1 - 0) * f 0 := by
      rw [ch_zero, ch_zero, Nat.sub_zero, Nat.sub_zero, Int.pow_succ]; grind
    rw [e0, ch_big (n := n) (k := n + 1) (by omega)]
    have e1 : sumTo n (fun j => p * ((ch n (j + 1) : Int) * p ^ (n - (j + 1)) * f (j + 1))) = sumTo n (fun j => (ch n (j + 1) : Int) * p ^ (n - j) * f (j + 1)) := by
      apply sumTo_congr
      intro j hj
      have e : n - j = n - (j + 1) + 1 := by omega
      rw [e, Int.pow_succ]; grind
    rw [e1]
    simp
  rw [h2]
  simp only []
  have e3 : sumTo (n + 1) (fun j => (fun j => (ch n j : Int) * p ^ (n - j) * (fun j => f (j + 1)) j) j) = sumTo (n + 1) (fun j => (ch n j : Int) * p ^ (n - j) * f (j + 1)) := rfl
  grind
theorem S_pr {l : Nat} (h : Pr l) (p : Int) (f : Nat → Int) : (l : Int) ∣ S p l f - (p ^ l * f 0 + f l) := by
  obtain ⟨n, rfl⟩ : ∃ n, l = n + 1 := ⟨l - 1, by have := h.1; omega⟩
  have e : S p (n + 1) f = sumTo n (fun j => (ch (n + 1) (j + 1) : Int) * p ^ (n + 1 - (j + 1)) * f (j + 1)) + (p ^ (n + 1) * f 0 + f (n + 1)) := by
    unfold S
    rw [sumTo_front, sumTo, ch_zero, ch_self]
    simp
    omega
  rw [e, Int.add_sub_cancel]
  refine sumTo_dvd fun j hj => ?_
  rw [Int.mul_assoc]
  exact Int.dvd_mul_of_dvd_left (Int.natCast_dvd_natCast.mpr (ch_dvd h (by omega) (by omega)))
theorem S_one (p : Int) : ∀ n, S p n (fun _ => 1) = (p + 1) ^ n
  | 0 => by simp [S, sumTo, ch]
  | n + 1 => by rw [S_succ, S_one p n, Int.pow_succ]; grind
theorem fermatN {l : Nat} (h : Pr l) : ∀ a : Nat, (l : Int) ∣ (a : Int) ^ l - a
  | 0 => by
    have := h.1
    obtain ⟨n, rfl⟩ : ∃ n, l = n + 1 := ⟨l - 1, by omega⟩
    simp [Int.pow_succ]
  | a + 1 => by
    have h1 := S_pr h (a : Int) (fun _ => 1)
    rw [S_one] at h1
    have h2 := fermatN h a
    have := Int.dvd_add h1 h2
    have e : ((a : Int) + 1) ^ l - ((a : Int) ^ l * 1 + 1) + ((a : Int) ^ l - a) = ((a + 1 : Nat) : Int) ^ l - ((a + 1 : Nat) : Int) := by
      rw [Int.natCast_add]; simp; omega
    rwa [e] at this
theorem dvd_pow_sub {m a b : Int} (h : m ∣ a - b) : ∀ n : Nat, m ∣ a ^ n - b ^ n
  | 0 => by simp
  | n + 1 => by
    obtain ⟨c, hc⟩ := h
    obtain ⟨d, hd⟩ := dvd_pow_sub ⟨c, hc⟩ n
    exact ⟨a * d + b ^ n * c, by rw [Int.pow_succ, Int.pow_succ]; grind⟩
theorem fermat {l : Nat} (h : Pr l) (a : Int) : (l : Int) ∣ a ^ l - a := by
  have l0 : (0 : Int) < l := by have := h.pos; omega
  have e : ((a % l).toNat : Int) = a % l := Int.toNat_of_nonneg (Int.emod_nonneg a (by omega))
  have h1 := fermatN h (a % l).toNat
  rw [e] at h1
  have h2 : (l : Int) ∣ a - a % l := Int.dvd_self_sub_emod
  have h3 := dvd_pow_sub h2 l
  have := Int.dvd_sub (Int.dvd_add h3 h1) h2
  have e2 : a ^ l - (a % l) ^ l + ((a % l) ^ l - a % l) - (a - a % l) = a ^ l - a := by omega
  rwa [e2] at this
def disc (p q : Int) : Int := p * p - 4 * q
def fe (D : Int) (j : Nat) : Int := if j % 2 = 0 then D ^ (j / 2) else 0
def fo (D : Int) (j : Nat) : Int := if j % 2 = 1 then D ^ (j / 2) else 0
theorem fe_succ (D : Int) : (fun j => fe D (j + 1)) = fun j => D * fo D j := by
  funext j
  unfold fe fo
  rcases Nat.mod_two_eq_zero_or_one j with e | e
  · rw [if_neg (by omega), if_neg (by omega), Int.mul_zero]
  · rw [if_pos (by omega), if_pos e, show (j + 1) / 2 = j / 2 + 1 by omega, Int.pow_succ, Int.mul_comm]
theorem fo_succ (D : Int) : (fun j => fo D (j + 1)) = fe D := by
  funext j
  unfold fe fo
  rcases Nat.mod_two_eq_zero_or_one j with e | e
  · rw [if_pos (by omega), if_pos e, show (j + 1) / 2 = j / 2 by omega]
  · rw [if_neg (by omega), if_neg (by omega)]
theorem S_smul (p D : Int) (n : Nat) (f : Nat → Int) : S p n (fun j => D * f j) = D * S p n f := by
  unfold S
  rw [← sumTo_mul]
  apply sumTo_congr
  intro j _
  grind
theorem UV_S (p q : Int) : ∀ n, 2 * S p n (fe (disc p q)) = 2 ^ n * V p q n ∧ 2 * S p n (fo (disc p q)) = 2 ^ n * U p q n
  | 0 => by simp [S, sumTo, ch, fe, fo, U, V]
  | n + 1 => by
    obtain ⟨h1, h2⟩ := UV_S p q n
    have e1 : S p (n + 1) (fe (disc p q)) = p * S p n (fe (disc p q)) + disc p q * S p n (fo (disc p q)) := by rw [S_succ, fe_succ, S_smul]
    have e2 : S p (n + 1) (fo (disc p q)) = p * S p n (fo (disc p q)) + S p n (fe (disc p q)) := by rw [S_succ, fo_succ]
    have v := V_eq p q n
    have v1 := V_eq p q (n + 1)
    have u2 : U p q (n + 1 + 1) = p * U p q (n + 1) - q * U p q n := rfl
    rw [u2] at v1
    constructor
    · rw [e1, Int.pow_succ]
      have : 2 * (p * S p n (fe (disc p q)) + disc p q * S p n (fo (disc p q))) = p * (2 * S p n (fe (disc p q))) + disc p q * (2 * S p n (fo (disc p q))) := by grind
      rw [this, h1, h2, v, v1]
      unfold disc
      grind
    · rw [e2, Int.pow_succ]
      have : 2 * (p * S p n (fo (disc p q)) + S p n (fe (disc p q))) = p * (2 * S p n (fo (disc p q))) + 2 * S p n (fe (disc p q)) := by grind
      rw [this, h1, h2, v]
      grind
theorem odd_cop {l : Nat} (h : Pr l) (o : l ≠ 2) {x : Int} (hd : (l : Int) ∣ 2 * x) : (l : Int) ∣ x := by
  rcases h.dvd_mulI hd with q | q
  · have := Nat.le_of_dvd (by decide) (Int.ofNat_dvd.mp (show ((l : Nat) : Int) ∣ ((2 : Nat) : Int) from q))
    have := h.1
    omega
  · exact q
/-- u(l) is D to the half of l less 1, by l; v(l) is p -/
theorem U_pr {l : Nat} (h : Pr l) (o : l ≠ 2) (p q : Int) : (l : Int) ∣ U p q l - disc p q ^ (l / 2) := by
  have lo : l % 2 = 1 := by
    rcases Nat.mod_two_eq_zero_or_one l with e | e
    · rcases h.2 2 (Nat.dvd_of_mod_eq_zero e) with z | z
      · omega
      · exact absurd z.symm o
    · exact e
  have h1 := S_pr h p (fo (disc p q))
  have e0 : fo (disc p q) 0 = 0 := by simp [fo]
  have e1 : fo (disc p q) l = disc p q ^ (l / 2) := by unfold fo; rw [if_pos lo]
  rw [e0, e1, Int.mul_zero, Int.zero_add] at h1
  have h2 := (UV_S p q l).2
  have h3 := fermat h 2
  apply odd_cop h o
  obtain ⟨a, ha⟩ := h1
  obtain ⟨b, hb⟩ := h3
  exact ⟨2 * a - b * U p q l, by grind⟩
theorem V_pr {l : Nat} (h : Pr l) (o : l ≠ 2) (p q : Int) : (l : Int) ∣ V p q l - p := by
  have lo : l % 2 = 1 := by
    rcases Nat.mod_two_eq_zero_or_one l with e | e
    · rcases h.2 2 (Nat.dvd_of_mod_eq_zero e) with z | z
      · omega
      · exact absurd z.symm o
    · exact e
  have h1 := S_pr h p (fe (disc p q))
  have e0 : fe (disc p q) 0 = 1 := by simp [fe]
  have e1 : fe (disc p q) l = 0 := by unfold fe; rw [if_neg (by omega)]
  rw [e0, e1, Int.mul_one, Int.add_zero] at h1
  have h2 := (UV_S p q l).1
  have h3 := fermat h 2
  have h4 := fermat h p
  apply odd_cop h o
  obtain ⟨a, ha⟩ := h1
  obtain ⟨b, hb⟩ := h3
  obtain ⟨c, hc⟩ := h4
  exact ⟨2 * a - b * V p q l + 2 * c, by grind⟩
/-- the sign of a number by an odd prime, told by its power -/
def Sgn (l : Nat) (d s : Int) : Prop := (s = 1 ∨ s = -1 ∨ s = 0) ∧ (l : Int) ∣ d ^ (l / 2) - s ∧ (s = 0 ↔ (l : Int) ∣ d)
/-- l divides the term at l less the sign -/
theorem Dv.bound {l : Nat} (h : Pr l) (o : l ≠ 2) {p q s : Int} (hq : ¬ (l : Int) ∣ q) (hs : Sgn l (disc p q) s) : Dv p q l ((l : Int) - s).toNat := by
  obtain ⟨h1, h2, _⟩ := hs
  have hU := U_pr h o p q
  have hV := V_pr h o p q
  have l2 := h.1
  obtain ⟨a, ha⟩ := h2
  obtain ⟨b, hb⟩ := hU
  obtain ⟨c, hc⟩ := hV
  have v := V_eq p q l
  obtain ⟨n, rfl⟩ : ∃ n, l = n + 1 := ⟨l - 1, by omega⟩
  have vn := V_eq p q n
  have u2 : U p q (n + 1 + 1) = p * U p q (n + 1) - q * U p q n := rfl
  rcases h1 with rfl | rfl | rfl
  · have e : (((n + 1 : Nat) : Int) - 1).toNat = n := by omega
    rw [e]
    have : ((n + 1 : Nat) : Int) ∣ q * U p q n := by
      apply odd_cop h o
      exact ⟨p * b + p * a - c, by rw [u2] at v; grind⟩
    rcases h.dvd_mulI this with z | z
    · exact absurd z hq
    · exact z
  · have e : (((n + 1 : Nat) : Int) - -1).toNat = n + 1 + 1 := by omega
    rw [e]
    apply odd_cop h o
    exact ⟨p * b + p * a + c, by grind⟩
  · have e : (((n + 1 : Nat) : Int) - 0).toNat = n + 1 := by omega
    rw [e]
    exact ⟨b + a, by grind⟩
theorem Dv.bound2 {p q : Int} (hq : ¬ (2 : Int) ∣ q) : Dv p q 2 (if p % 2 = 0 then 2 else 3) := by
  unfold Dv
  split
  · rename_i h
    rw [U_2]
    exact Int.dvd_of_emod_eq_zero h
  · rename_i h
    have : U p q 3 = p * p - q := by show p * U p q 2 - q * U p q 1 = _; rw [U_2, U_1]; grind
    rw [this]
    have h1 : q % 2 ≠ 0 := fun z => hq (Int.dvd_of_emod_eq_zero z)
    have h2 : p % 2 = 1 := by omega
    have h3 : q % 2 = 1 := by omega
    refine Int.dvd_of_emod_eq_zero ?_
    have e : (p * p) % 2 = 1 := by rw [Int.mul_emod, h2]; rfl
    have : (((2 : Nat) : Int)) = 2 := rfl
    omega
end TM

/-! the found list of primes; the sign of two numbers, as it is worked out -/
namespace TM
theorem prodF_len : ∀ {L : List (Nat × Nat)}, (∀ x ∈ L, Pr x.1 ∧ 1 ≤ x.2) → 2 ^ L.length ≤ prodF L
  | [], _ => Nat.le_refl _
  | (m, e) :: r, h => by
    have h1 := h (m, e) (by simp)
    have h2 := prodF_len (L := r) fun x hx => h x (List.mem_cons_of_mem _ hx)
    rw [List.length_cons, Nat.pow_succ, prodF, Nat.mul_comm (2 ^ r.length)]
    refine Nat.mul_le_mul ?_ h2
    have : m ^ 1 ≤ m ^ e := Nat.pow_le_pow_right h1.1.pos h1.2
    rw [Nat.pow_one] at this
    exact Nat.le_trans h1.1.1 this
/-- the state of the search for primes: what is found, what is left, the next number tried -/
structure FacS (n : Nat) (L : List (Nat × Nat)) (left k : Nat) : Prop where
  prod : prodF L * left = n
  pr : ∀ x ∈ L, Pr x.1 ∧ 1 ≤ x.2
  asc : L.Pairwise (fun x y => x.1 < y.1)
  lt : ∀ x ∈ L, x.1 < k
  lpos : 0 < left
  kb : k = 2 ∨ k % 2 = 1 ∧ 3 ≤ k
  low : ∀ d, 2 ≤ d → d ∣ left → k ≤ d
theorem FacS.start {n : Nat} (h : 1 ≤ n) : FacS n [] n 2 := ⟨by simp [prodF], by simp, by simp, by simp, h, .inl rfl, fun d h _ => h⟩
theorem FacS.step {n : Nat} {L : List (Nat × Nat)} {left k e : Nat} (h : FacS n L (left * k ^ e) k) (nd : ¬ k ∣ left) : FacS n (if 0 < e then L ++ [(k, e)] else L) left (k + if k = 2 then 1 else 2) := by
  have kp := h.kb
  have lp : 0 < left := Nat.pos_of_ne_zero fun z => by have := h.lpos; rw [z, Nat.zero_mul] at this; omega
  have low : ∀ d, 2 ≤ d → d ∣ left → (k + if k = 2 then 1 else 2) ≤ d := fun d hd hd' => by
    have h1 := h.low d hd (Nat.dvd_mul_right_of_dvd hd' _)
    have h2 : d ≠ k := by rintro rfl; exact nd hd'
    split
    · omega
    · rename_i k2
      by_cases q : d = k + 1
      · exfalso
        have : 2 ∣ d := by omega
        have := h.low 2 (by omega) (Nat.dvd_mul_right_of_dvd (Nat.dvd_trans this hd') _)
        omega
      · omega
  have kb : (k + if k = 2 then 1 else 2) = 2 ∨ (k + if k = 2 then 1 else 2) % 2 = 1 ∧ 3 ≤ (k + if k = 2 then 1 else 2) := by split <;> omega
  have gt : k < (k + if k = 2 then 1 else 2) := by split <;> omega
  by_cases e0 : 0 < e
  · rw [if_pos e0]
    have pk : Pr k := ⟨by omega, fun d hd => by
      by_cases d1 : d = 1
      · exact .inl d1
      · right
        have dl := Nat.le_of_dvd (by omega) hd
        have d0 : d ≠ 0 := by rintro rfl; rw [Nat.zero_dvd] at hd; omega
        have hk : k ∣ k ^ e := by have := Nat.pow_dvd_pow k e0; rwa [Nat.pow_one] at this
        have := h.low d (by omega) (Nat.dvd_mul_left_of_dvd (Nat.dvd_trans hd hk) _)
        omega⟩
    refine ⟨?_, ?_, ?_, ?_, lp, kb, low⟩
    · rw [prodF_append, prodF, prodF, Nat.mul_one, ← h.prod, Nat.mul_assoc, Nat.mul_comm (k ^ e)]
    · intro x hx
      rcases List.mem_append.mp hx with q | q
      · exact h.pr x q
      · rw [List.mem_singleton] at q; subst q; exact ⟨pk, e0⟩
    · rw [List.pairwise_append]
      exact ⟨h.asc, by simp, fun x hx y hy => by rw [List.mem_singleton] at hy; subst hy; exact h.lt x hx⟩
    · intro x hx
      rcases List.mem_append.mp hx with q | q
      · have := h.lt x q; omega
      · rw [List.mem_singleton] at q; subst q; exact gt
  · rw [if_neg e0]
    have : e = 0 := by omega
    subst this
    have hp := h.prod
    rw [Nat.pow_zero, Nat.mul_one] at hp
    exact ⟨hp, h.pr, h.asc, fun x hx => by have := h.lt x hx; omega, lp, kb, low⟩
theorem FacS.done {n : Nat} {L : List (Nat × Nat)} {left k : Nat} (h : FacS n L left k) (g : left < k * k) : IsFac n (if 1 < left then L ++ [(left, 1)] else L) := by
  by_cases l : 1 < left
  · rw [if_pos l]
    have pl : Pr left := .of_no_small l fun d hd hdd hd' => by
      have := h.low d hd hd'
      have := Nat.mul_le_mul this this
      omega
    refine ⟨?_, ?_, ?_⟩
    · rw [prodF_append, prodF, prodF, Nat.mul_one, Nat.pow_one]; exact h.prod
    · intro x hx
      rcases List.mem_append.mp hx with q | q
      · exact h.pr x q
      · rw [List.mem_singleton] at q; subst q; exact ⟨pl, Nat.le_refl 1⟩
    · rw [List.pairwise_append]
      exact ⟨h.asc, by simp, fun x hx y hy => by
        rw [List.mem_singleton] at hy; subst hy
        have := h.lt x hx
        have := h.low left l (Nat.dvd_refl _)
        show x.1 < left
        omega⟩
  · rw [if_neg l]
    have e : left = 1 := by have := h.lpos; omega
    subst e
    exact ⟨by rw [← h.prod, Nat.mul_one], h.pr, h.asc⟩
theorem isfac_pr {n : Nat} {L : List (Nat × Nat)} (h : IsFac n L) : Pr n ↔ L = [(n, 1)] := by
  constructor
  · intro p
    exact h.unique ⟨by simp [prodF], by simp [p], by simp⟩
  · rintro rfl
    exact (h.pr (n, 1) (by simp)).1
theorem Pr.fac {n : Nat} (p : Pr n) : IsFac n [(n, 1)] := ⟨by simp [prodF], by simp [p], by simp⟩
/-! the sign of two numbers as the program works it out -/
def jacF : Nat → Nat → Nat → Int → Int
  | 0, _, _, _ => 0
  | f + 1, near, far, s =>
    if near = 0 then (if far = 1 then s else 0)
    else if near % 2 = 0 then jacF f (near / 2) far (if far % 8 = 3 ∨ far % 8 = 5 then -s else s)
    else jacF f (far % near) near (if far % 4 = 3 ∧ near % 4 = 3 then -s else s)
def jac (a : Int) (l : Nat) : Int := jacF (l + 1) (a % l).toNat l 1
theorem jacF_fuel : ∀ {f g near far : Nat} {s : Int}, near < f → near < g → jacF f near far s = jacF g near far s
  | f + 1, g + 1, near, far, s, h1, h2 => by
    unfold jacF
    by_cases n0 : near = 0
    · rw [if_pos n0, if_pos n0]
    · rw [if_neg n0, if_neg n0]
      by_cases e : near % 2 = 0
      · rw [if_pos e, if_pos e]; exact jacF_fuel (by omega) (by omega)
      · rw [if_neg e, if_neg e]
        have := Nat.mod_lt far (Nat.pos_of_ne_zero n0)
        exact jacF_fuel (by omega) (by omega)
/-- with fuel enough -/
def jacN (near far : Nat) (s : Int) : Int := jacF (near + 1) near far s
theorem jacN_0 (far : Nat) (s : Int) : jacN 0 far s = if far = 1 then s else 0 := rfl
theorem jacN_e {near far : Nat} {s : Int} (n0 : near ≠ 0) (e : near % 2 = 0) : jacN near far s = jacN (near / 2) far (if far % 8 = 3 ∨ far % 8 = 5 then -s else s) := by
  unfold jacN
  rw [jacF, if_neg n0, if_pos e]
  exact jacF_fuel (by omega) (by omega)
theorem jacN_o {near far : Nat} {s : Int} (o : near % 2 = 1) : jacN near far s = jacN (far % near) near (if far % 4 = 3 ∧ near % 4 = 3 then -s else s) := by
  unfold jacN
  have := Nat.mod_lt far (show 0 < near by omega)
  rw [jacF, if_neg (by omega), if_neg (by omega)]
  exact jacF_fuel (by omega) (by omega)
theorem jac_N (a : Int) {l : Nat} (h : 0 < l) : jac a l = jacN (a % l).toNat l 1 := by
  unfold jac jacN
  have := Int.emod_lt_of_pos a (show (0 : Int) < l by omega)
  have := Int.emod_nonneg a (show (l : Int) ≠ 0 by omega)
  exact jacF_fuel (by omega) (by omega)
end TM

/-! terms of terms; where a term is nought -/
namespace TM
theorem U_dbla (p q : Int) (a : Nat) : ∀ n, U p q (n + 2 * a) = V p q a * U p q (n + a) - q ^ a * U p q n ∧ U p q (n + 1 + 2 * a) = V p q a * U p q (n + 1 + a) - q ^ a * U p q (n + 1)
  | 0 => by
    have n1 := U_norm p q a
    constructor
    · rw [Nat.zero_add, Nat.zero_add, U_dbl, V_eq, U_0]; grind
    · rw [Nat.zero_add, Nat.add_comm 1, Nat.add_comm 1, U_dbl1, V_eq, U_1, ← n1]; grind
  | n + 1 => by
    obtain ⟨h1, h2⟩ := U_dbla p q a n
    refine ⟨h2, ?_⟩
    have e1 : U p q (n + 1 + 1 + 2 * a) = p * U p q (n + 1 + 2 * a) - q * U p q (n + 2 * a) := by
      rw [show n + 1 + 1 + 2 * a = (n + 2 * a) + 2 by omega, show n + 1 + 2 * a = (n + 2 * a) + 1 by omega]; rfl
    have e2 : U p q (n + 1 + 1 + a) = p * U p q (n + 1 + a) - q * U p q (n + a) := by
      rw [show n + 1 + 1 + a = (n + a) + 2 by omega, show n + 1 + a = (n + a) + 1 by omega]; rfl
    have e3 : U p q (n + 1 + 1) = p * U p q (n + 1) - q * U p q n := rfl
    rw [e1, e2, e3, h1, h2]
    grind
theorem U_mulV (p q : Int) (a : Nat) : ∀ n, U p q (a * n) = U p q a * U (V p q a) (q ^ a) n
  | 0 => by simp [U]
  | 1 => by rw [Nat.mul_one, U_1, Int.mul_one]
  | n + 2 => by
    have h1 := U_mulV p q a n
    have h2 := U_mulV p q a (n + 1)
    have e := (U_dbla p q a (a * n)).1
    rw [show a * (n + 2) = a * n + 2 * a by rw [Nat.mul_add, Nat.mul_comm a 2], e, show a * n + a = a * (n + 1) by rw [Nat.mul_succ], h1, h2, U_ss]
    grind
theorem disc_V (p q : Int) (a : Nat) : disc (V p q a) (q ^ a) = disc p q * (U p q a * U p q a) := by
  unfold disc
  have n1 := U_norm p q a
  rw [V_eq, ← n1]
  grind
theorem U_scale (g p q : Int) : ∀ n, U (g * p) (g * g * q) (n + 1) = g ^ n * U p q (n + 1) ∧ U (g * p) (g * g * q) n * g = g ^ n * U p q n
  | 0 => by simp [U]
  | n + 1 => by
    obtain ⟨h1, h2⟩ := U_scale g p q n
    have e1 : U (g * p) (g * g * q) (n + 1 + 1) = (g * p) * U (g * p) (g * g * q) (n + 1) - (g * g * q) * U (g * p) (g * g * q) n := rfl
    have e2 : U p q (n + 1 + 1) = p * U p q (n + 1) - q * U p q n := rfl
    refine ⟨?_, ?_⟩
    · rw [e1, e2, h1]
      have : g * g * q * U (g * p) (g * g * q) n = g * q * (U (g * p) (g * g * q) n * g) := by grind
      rw [this, h2, Int.pow_succ]
      grind
    · rw [h1, Int.pow_succ]; grind
/-- u(n+1) is a power of p, by q -/
theorem U_modq (p q : Int) : ∀ n, q ∣ U p q (n + 1) - p ^ n
  | 0 => by simp [U]
  | n + 1 => by
    obtain ⟨c, hc⟩ := U_modq p q n
    have e2 : U p q (n + 1 + 1) = p * U p q (n + 1) - q * U p q n := rfl
    exact ⟨p * c - U p q n, by rw [e2, Int.pow_succ]; grind⟩
theorem U_neg (p q : Int) : ∀ n, U (-p) q n = 0 ↔ U p q n = 0 := by
  have key : ∀ n, (U (-p) q (n + 1) = U p q (n + 1) ∧ U (-p) q n = - U p q n) ∨ (U (-p) q (n + 1) = - U p q (n + 1) ∧ U (-p) q n = U p q n) := by
    intro n
    induction n with
    | zero => left; simp [U]
    | succ n ih =>
      have e1 : U (-p) q (n + 1 + 1) = -p * U (-p) q (n + 1) - q * U (-p) q n := rfl
      have e2 : U p q (n + 1 + 1) = p * U p q (n + 1) - q * U p q n := rfl
      rcases ih with ⟨a, b⟩ | ⟨a, b⟩
      · right; rw [e1, e2, a, b]; constructor <;> grind
      · left; rw [e1, e2, a, b]; constructor <;> grind
  intro n
  rcases key n with ⟨_, b⟩ | ⟨_, b⟩ <;> rw [b] <;> omega
theorem U_pos {p q : Int} (h : 0 < p) (d : 0 ≤ disc p q) : ∀ n, 0 < U p q (n + 1) ∧ p * U p q (n + 1) ≤ 2 * U p q (n + 2) ∧ 0 ≤ U p q n
  | 0 => by
    rw [U_1, U_2, U_0]; omega
  | n + 1 => by
    obtain ⟨h1, h2, h3⟩ := U_pos h d n
    have h4 : 0 < U p q (n + 2) := by
      have := Int.mul_pos h h1
      omega
    refine ⟨h4, ?_, by exact Int.le_of_lt h1⟩
    have e : U p q (n + 1 + 2) = p * U p q (n + 2) - q * U p q (n + 1) := rfl
    rw [e]
    unfold disc at d
    have a1 : p * (p * U p q (n + 1)) ≤ p * (2 * U p q (n + 2)) := Int.mul_le_mul_of_nonneg_left h2 (by omega)
    have a2 : 0 ≤ (p * p - 4 * q) * U p q (n + 1) := Int.mul_nonneg d (by omega)
    show p * U p q (n + 2) ≤ _
    grind
/-- a row with a nought has p p = m q, m of 0 to 3 -/
theorem zero_form {p q : Int} {n : Nat} (q0 : q ≠ 0) (n0 : 0 < n) (h : U p q n = 0) : ∃ m : Int, p * p = m * q ∧ 0 ≤ m ∧ m ≤ 3 := by
  by_cases p0 : p = 0
  · exact ⟨0, by rw [p0]; simp, by omega, by omega⟩
  -- the row of each second
  have h2 : U (p * p - 2 * q) (q * q) n = 0 := by
    have e := U_mulV p q 2 n
    have e3 : U p q (2 * n) = 0 := by rw [U_dbl, h, Int.zero_mul]
    have eV : V p q 2 = p * p - 2 * q := by show p * p - q * 2 = _; grind
    rw [e3, U_2, eV, Int.pow_succ, Int.pow_succ, Int.pow_zero, Int.one_mul] at e
    rcases Int.mul_eq_zero.mp e.symm with z | z
    · exact absurd z p0
    · exact z
  -- q divides p p - 2 q
  have hq : q ∣ p * p - 2 * q := by
    generalize p * p - 2 * q = P at h2
    have g0 : Int.gcd P q ≠ 0 := fun z => q0 (Int.gcd_eq_zero_iff.mp z).2
    have gp : 0 < Int.gcd P q := Nat.pos_of_ne_zero g0
    obtain ⟨a, ha⟩ := Int.gcd_dvd_left P q
    obtain ⟨b, hb⟩ := Int.gcd_dvd_right P q
    have cop : Int.gcd a b = 1 := by
      have := Int.gcd_mul_left (Int.gcd P q : Int) a b
      rw [← ha, ← hb, Int.natAbs_natCast] at this
      have e2 : Int.gcd P q * 1 = Int.gcd P q * Int.gcd a b := by omega
      exact (Nat.eq_of_mul_eq_mul_left gp e2).symm
    obtain ⟨k, rfl⟩ : ∃ k, n = k + 1 := ⟨n - 1, by omega⟩
    have sc := (U_scale (Int.gcd P q : Int) a (b * b) k).1
    have e1 : (Int.gcd P q : Int) * (Int.gcd P q : Int) * (b * b) = q * q := by
      generalize (Int.gcd P q : Int) = g at *
      rw [hb]; grind
    rw [e1, ← ha, h2] at sc
    have hU : U a (b * b) (k + 1) = 0 := by
      rcases Int.mul_eq_zero.mp sc.symm with z | z
      · exfalso
        have : (Int.gcd P q : Int) ≠ 0 := by omega
        exact Int.pow_ne_zero this z
      · exact z
    have md := U_modq a (b * b) k
    rw [hU, Int.zero_sub] at md
    have bd : b ∣ a ^ k := Int.dvd_trans ⟨b, rfl⟩ (Int.dvd_neg.mp md)
    have b1 : b.natAbs = 1 := by
      have c1 : Nat.Coprime b.natAbs (a.natAbs ^ k) := Nat.Coprime.pow_right k (Nat.Coprime.symm cop)
      have d1 : b.natAbs ∣ a.natAbs ^ k := by rw [← Int.natAbs_pow]; exact Int.natAbs_dvd_natAbs.mpr bd
      have := Nat.dvd_gcd (Nat.dvd_refl b.natAbs) d1
      rw [c1] at this
      exact Nat.dvd_one.mp this
    have b2 : b = 1 ∨ b = -1 := by omega
    generalize (Int.gcd P q : Int) = g at *
    rw [ha, hb]
    rcases b2 with rfl | rfl
    · exact ⟨a, by grind⟩
    · exact ⟨-a, by grind⟩
  obtain ⟨t, ht⟩ := hq
  refine ⟨t + 2, by grind, ?_⟩
  have e : p * p = (t + 2) * q := by grind
  have pp : 0 < p * p := by
    rcases Int.lt_or_gt_of_ne p0 with z | z
    · exact Int.mul_pos_of_neg_of_neg z z
    · exact Int.mul_pos z z
  have nd : ¬ 0 ≤ disc p q := by
    intro d
    obtain ⟨k, rfl⟩ : ∃ k, n = k + 1 := ⟨n - 1, by omega⟩
    rcases Int.lt_or_gt_of_ne p0 with z | z
    · have d' : 0 ≤ disc (-p) q := by unfold disc at *; grind
      have := (U_pos (p := -p) (q := q) (by omega) d' k).1
      have := (U_neg p q (k + 1)).mpr h
      omega
    · have := (U_pos z d k).1
      omega
  unfold disc at nd
  have qp : 0 < q := by
    apply Int.lt_of_not_ge
    intro z
    apply nd
    omega
  constructor
  · apply Int.le_of_not_gt
    intro z
    have := Int.mul_nonpos_of_nonpos_of_nonneg (show t + 2 ≤ 0 by omega) (show 0 ≤ q by omega)
    omega
  · apply Int.le_of_not_gt
    intro z
    have := Int.mul_le_mul_of_nonneg_right (show (4 : Int) ≤ t + 2 by omega) (show 0 ≤ q by omega)
    omega
/-- the first nought, if there is one, is at 2, 3, 4 or 6 -/
theorem zero_small {p q : Int} {n : Nat} (q0 : q ≠ 0) (n0 : 0 < n) (h : U p q n = 0) : ∃ k, 0 < k ∧ k < 7 ∧ U p q k = 0 := by
  obtain ⟨m, e, m0, m3⟩ := zero_form q0 n0 h
  have u3 : U p q 3 = p * p - q := by show p * (p * 1 - q * 0) - q * 1 = _; grind
  have u4 : U p q 4 = p * (p * p - 2 * q) := by show p * (p * (p * 1 - q * 0) - q * 1) - q * (p * 1 - q * 0) = _; grind
  have u6 : U p q 6 = p * (p * p - q) * (p * p - 3 * q) := by
    show p * (p * (p * (p * (p * 1 - q * 0) - q * 1) - q * (p * 1 - q * 0)) - q * (p * (p * 1 - q * 0) - q * 1)) - q * (p * (p * (p * 1 - q * 0) - q * 1) - q * (p * 1 - q * 0)) = _
    grind
  have : m = 0 ∨ m = 1 ∨ m = 2 ∨ m = 3 := by omega
  rcases this with rfl | rfl | rfl | rfl
  · refine ⟨2, by decide, by decide, ?_⟩
    rw [U_2]
    rcases Int.mul_eq_zero.mp (e.trans (Int.zero_mul q)) with z | z <;> exact z
  · exact ⟨3, by decide, by decide, by rw [u3]; omega⟩
  · exact ⟨4, by decide, by decide, by rw [u4, e]; simp⟩
  · exact ⟨6, by decide, by decide, by rw [u6, e]; simp⟩
/-- noughts stand just at the multiples of the first -/
theorem zero_iff {p q : Int} {z : Nat} (q0 : q ≠ 0) (z0 : 0 < z) (hz : U p q z = 0) (l : ∀ k, 0 < k → U p q k = 0 → z ≤ k) (n : Nat) : U p q n = 0 ↔ z ∣ n := by
  have c : U p q (z + 1) ≠ 0 := by
    intro e
    have := U_norm p q z
    rw [e, hz] at this
    exact Int.pow_ne_zero q0 (by rw [← this]; simp)
  have step : ∀ k, U p q (z + k) = 0 ↔ U p q k = 0 := by
    intro k
    cases k with
    | zero => simp [hz, U]
    | succ k =>
      show U p q (z + k + 1) = 0 ↔ _
      rw [U_add, hz]
      constructor
      · intro e
        have : U p q (z + 1) * U p q (k + 1) = 0 := by grind
        rcases Int.mul_eq_zero.mp this with y | y
        · exact absurd y c
        · exact y
      · intro e
        rw [e]; simp
  induction n using Nat.strongRecOn with
  | ind n ih =>
    by_cases l2 : n < z
    · constructor
      · intro e
        rcases Nat.eq_zero_or_pos n with rfl | np
        · exact Nat.dvd_zero z
        · have := l n np e; omega
      · intro d
        rcases Nat.eq_zero_or_pos n with rfl | np
        · rfl
        · have := Nat.le_of_dvd np d; omega
    · obtain ⟨k, rfl⟩ : ∃ k, n = z + k := ⟨n - z, by omega⟩
      have ik := ih k (by omega)
      refine (step k).trans (Iff.trans ik ?_)
      exact ⟨fun d => Nat.dvd_add (Nat.dvd_refl z) d, fun d => (Nat.dvd_add_right (Nat.dvd_refl z)).mp d⟩
end TM

/-! How often a prime divides a term; first places of powers. -/
namespace TM
def Vl (l : Nat) (x : Int) (e : Nat) : Prop := ∃ c, x = (l : Int) ^ e * c ∧ ¬ (l : Int) ∣ c
theorem powI_ne {l : Nat} (h : Pr l) (e : Nat) : (l : Int) ^ e ≠ 0 := Int.pow_ne_zero (by have := h.pos; omega)
theorem Vl.ne {l : Nat} {x : Int} {e : Nat} (h : Pr l) (v : Vl l x e) : x ≠ 0 := by
  obtain ⟨c, rfl, hc⟩ := v
  intro z
  rcases Int.mul_eq_zero.mp z with y | y
  · exact powI_ne h e y
  · exact hc (y ▸ Int.dvd_zero _)
theorem Vl.mul {l : Nat} {x y : Int} {a b : Nat} (h : Pr l) (v : Vl l x a) (w : Vl l y b) : Vl l (x * y) (a + b) := by
  obtain ⟨c, rfl, hc⟩ := v
  obtain ⟨d, rfl, hd⟩ := w
  refine ⟨c * d, by rw [Int.pow_add]; grind, fun z => ?_⟩
  rcases h.dvd_mulI z with y | y
  · exact hc y
  · exact hd y
theorem Vl.dvd {l : Nat} {x : Int} {e k : Nat} (h : Pr l) (v : Vl l x e) : (l : Int) ^ k ∣ x ↔ k ≤ e := by
  obtain ⟨c, rfl, hc⟩ := v
  constructor
  · intro ⟨d, hd⟩
    apply Nat.le_of_not_lt
    intro z
    obtain ⟨j, rfl⟩ : ∃ j, k = e + (j + 1) := ⟨k - e - 1, by omega⟩
    rw [Int.pow_add, Int.mul_assoc] at hd
    have := Int.eq_of_mul_eq_mul_left (powI_ne h e) hd
    exact hc ⟨(l : Int) ^ j * d, by rw [this, Int.pow_succ]; grind⟩
  · intro z
    obtain ⟨j, rfl⟩ : ∃ j, e = k + j := ⟨e - k, by omega⟩
    exact ⟨(l : Int) ^ j * c, by rw [Int.pow_add]; grind⟩
theorem Vl.unique {l : Nat} {x : Int} {a b : Nat} (h : Pr l) (v : Vl l x a) (w : Vl l x b) : a = b := by
  have h1 := (v.dvd h (k := b)).mp ((w.dvd h).mpr (Nat.le_refl b))
  have h2 := (w.dvd h (k := a)).mp ((v.dvd h).mpr (Nat.le_refl a))
  omega
theorem Vl.zero {l : Nat} {x : Int} (n : ¬ (l : Int) ∣ x) : Vl l x 0 := ⟨x, by simp, n⟩
theorem Vl.of {l : Nat} {x : Int} {e : Nat} (h : Pr l) (d : (l : Int) ^ e ∣ x) (n : ¬ (l : Int) ^ (e + 1) ∣ x) : Vl l x e := by
  obtain ⟨c, rfl⟩ := d
  refine ⟨c, rfl, fun ⟨d, hd⟩ => n ⟨d, by rw [hd, Int.pow_succ]; grind⟩⟩
theorem Vl.exist {l : Nat} (h : Pr l) {x : Int} (x0 : x ≠ 0) : ∃ e, Vl l x e := by
  generalize hn : x.natAbs = n
  induction n using Nat.strongRecOn generalizing x with
  | ind n ih =>
    by_cases d : (l : Int) ∣ x
    · obtain ⟨c, rfl⟩ := d
      have c0 : c ≠ 0 := by rintro rfl; simp at x0
      have l2 := h.1
      have : c.natAbs < n := by
        rw [← hn, Int.natAbs_mul, Int.natAbs_natCast]
        have : 0 < c.natAbs := by omega
        have := Nat.mul_le_mul_right c.natAbs l2
        omega
      obtain ⟨e, c2, h2, h3⟩ := ih _ this c0 rfl
      exact ⟨e + 1, c2, by rw [h2, Int.pow_succ]; grind, h3⟩
    · exact ⟨0, .zero d⟩
theorem Vl.neg {l : Nat} {x : Int} {e : Nat} (v : Vl l x e) : Vl l (-x) e := by
  obtain ⟨c, rfl, hc⟩ := v
  exact ⟨-c, by rw [Int.mul_neg], fun z => hc (Int.dvd_neg.mp z)⟩
theorem V_disc (p q : Int) : ∀ m, disc p q ∣ 2 ^ m * V p q (m + 1) - p ^ (m + 1)
  | 0 => by simp [V, Int.pow_succ]
  | m + 1 => by
    obtain ⟨b, hb⟩ := V_disc p q m
    have v1 := V_eq p q (m + 1)
    have v2 := V_eq p q (m + 1 + 1)
    have e2 : U p q (m + 1 + 1 + 1) = p * U p q (m + 1 + 1) - q * U p q (m + 1) := rfl
    have r2 : 2 * V p q (m + 1 + 1) = disc p q * U p q (m + 1) + p * V p q (m + 1) := by
      rw [v2, v1, e2]; unfold disc; grind
    refine ⟨2 ^ m * U p q (m + 1) + p * b, ?_⟩
    rw [Int.pow_succ, Int.pow_succ p]
    have : 2 ^ m * 2 * V p q (m + 1 + 1) = 2 ^ m * (2 * V p q (m + 1 + 1)) := by grind
    rw [this, r2]
    grind
theorem U_disc (p q : Int) : ∀ m, disc p q ∣ 2 ^ m * U p q (m + 1) - ((m + 1 : Nat) : Int) * p ^ m
  | 0 => by simp [U]
  | m + 1 => by
    obtain ⟨a, ha⟩ := U_disc p q m
    obtain ⟨b, hb⟩ := V_disc p q m
    have v2 := V_eq p q (m + 1)
    have e2 : U p q (m + 1 + 1) = p * U p q (m + 1) - q * U p q m := rfl
    have r1 : 2 * U p q (m + 1 + 1) = p * U p q (m + 1) + V p q (m + 1) := by rw [v2]; grind
    refine ⟨p * a + b, ?_⟩
    rw [Int.pow_succ, Int.pow_succ p]
    have : 2 ^ m * 2 * U p q (m + 1 + 1) = 2 ^ m * (2 * U p q (m + 1 + 1)) := by grind
    rw [this, r1]
    have e : (((m + 1 + 1 : Nat)) : Int) = ((m + 1 : Nat) : Int) + 1 := by omega
    rw [e]
    rw [Int.pow_succ] at hb
    grind
theorem pr_odd {l : Nat} (h : Pr l) (o : l ≠ 2) : ¬ (l : Int) ∣ 2 := fun z => by
  have := Nat.le_of_dvd (by decide) (Int.natCast_dvd_natCast.mp (show (l : Int) ∣ ((2 : Nat) : Int) from z))
  have := h.1
  omega
theorem ndvd_pow {l : Nat} (h : Pr l) {x : Int} (n : ¬ (l : Int) ∣ x) (k : Nat) : ¬ (l : Int) ∣ x ^ k := fun z => n (h.dvd_powI z)
/-- the factor by which a term grows: how often l divides it -/
theorem grow_odd {l : Nat} (h : Pr l) (o : l ≠ 2) {p q : Int} (hq : ¬ (l : Int) ∣ q) {a : Nat} (ha : (l : Int) ∣ U p q a) : (∀ m, ¬ l ∣ m → Vl l (U (V p q a) (q ^ a) m) 0) ∧ Vl l (U (V p q a) (q ^ a) l) 1 := by
  have hd : (l : Int) * l ∣ disc (V p q a) (q ^ a) := by
    rw [disc_V]
    obtain ⟨c, hc⟩ := ha
    exact ⟨disc p q * (c * c), by rw [hc]; grind⟩
  have hqa := ndvd_pow h hq a
  have h2 := pr_odd h o
  generalize V p q a = P at *
  generalize q ^ a = Q at *
  have hP : ¬ (l : Int) ∣ P := by
    intro ⟨c, hc⟩
    obtain ⟨d, hd⟩ := hd
    unfold disc at hd
    have : (l : Int) ∣ 2 * (2 * Q) := ⟨c * P - l * d, by rw [hc] at hd ⊢; grind⟩
    rcases h.dvd_mulI this with y | y
    · exact h2 y
    rcases h.dvd_mulI y with y | y
    · exact h2 y
    · exact hqa y
  constructor
  · intro m hm
    refine .zero fun z => ?_
    obtain ⟨n, rfl⟩ : ∃ n, m = n + 1 := ⟨m - 1, by
      have : m ≠ 0 := by rintro rfl; exact hm (Nat.dvd_zero l)
      omega⟩
    obtain ⟨a, ha⟩ := U_disc P Q n
    obtain ⟨d, hd⟩ := hd
    obtain ⟨c, hc⟩ := z
    have : (l : Int) ∣ ((n + 1 : Nat) : Int) * P ^ n := ⟨2 ^ n * c - l * d * a, by rw [hc, hd] at ha; grind⟩
    rcases h.dvd_mulI this with y | y
    · exact hm (Int.natCast_dvd_natCast.mp y)
    · exact ndvd_pow h hP n y
  · obtain ⟨n, rfl⟩ : ∃ n, l = n + 1 := ⟨l - 1, by have := h.1; omega⟩
    obtain ⟨a, ha⟩ := U_disc P Q n
    obtain ⟨d, hd⟩ := hd
    rw [hd] at ha
    generalize hL : ((n + 1 : Nat) : Int) = L at *
    have L0 : L ≠ 0 := by omega
    have d1 : L ∣ 2 ^ n * U P Q (n + 1) := ⟨P ^ n + L * d * a, by grind⟩
    rcases (hL ▸ h.dvd_mulI (hL ▸ d1) : L ∣ 2 ^ n ∨ L ∣ U P Q (n + 1)) with y | y
    · exact absurd (hL ▸ y) (ndvd_pow h (hL ▸ h2) n)
    · obtain ⟨c, hc⟩ := y
      refine ⟨c, by rw [hc]; rw [Int.pow_succ, Int.pow_zero, hL]; grind, fun ⟨b, hb⟩ => ?_⟩
      rw [hL] at hb
      have : L * (2 ^ n * (L * b)) = L * (P ^ n + L * d * a) := by rw [hc, hb] at ha; grind
      have := Int.eq_of_mul_eq_mul_left L0 this
      have : L ∣ P ^ n := ⟨2 ^ n * b - d * a, by grind⟩
      exact ndvd_pow h (hL ▸ hP) n (hL ▸ this)
theorem two_pr : Pr 2 := ⟨by decide, fun d hd => by have := Nat.le_of_dvd (by decide) hd; have : d ≠ 0 := by rintro rfl; simp at hd
                                                    omega⟩
theorem odd_pow {q : Int} (h : ¬ (2 : Int) ∣ q) (n : Nat) : q ^ n % 2 = 1 := by
  have := ndvd_pow two_pr (x := q) h n
  have : ¬ (2 : Int) ∣ q ^ n := this
  omega
theorem grow_two {p q : Int} (hq : ¬ (2 : Int) ∣ q) {a : Nat} (ha : (4 : Int) ∣ U p q a) : (∀ m, ¬ 2 ∣ m → Vl 2 (U (V p q a) (q ^ a) m) 0) ∧ Vl 2 (U (V p q a) (q ^ a) 2) 1 := by
  have hd := disc_V p q a
  have hQ := odd_pow hq a
  have hPe : V p q a % 2 = 0 := by
    rw [V_eq]
    obtain ⟨c, hc⟩ := ha
    rw [hc]
    have : 2 * U p q (a + 1) - p * (4 * c) = 2 * (U p q (a + 1) - p * 2 * c) := by grind
    rw [this]
    exact Int.mul_emod_right _ _
  obtain ⟨c, hc⟩ := ha
  rw [hc] at hd
  generalize V p q a = P at *
  generalize q ^ a = Q at *
  obtain ⟨r, rfl⟩ : ∃ r, P = 2 * r := ⟨P / 2, by omega⟩
  have hr : r % 2 = 1 := by
    have e : r * r = Q + 4 * (disc p q * (c * c)) := by
      have e1 : 4 * (r * r) = 4 * (Q + 4 * (disc p q * (c * c))) := by
        have : disc (2 * r) Q = 4 * (r * r) - 4 * Q := by unfold disc; grind
        rw [this] at hd
        grind
      omega
    have : (r * r) % 2 = 1 := by omega
    rw [Int.mul_emod] at this
    rcases (by omega : r % 2 = 0 ∨ r % 2 = 1) with z | z
    · rw [z] at this; exact absurd this (by decide)
    · exact z
  constructor
  · intro m hm
    refine .zero fun z => ?_
    have key : ∀ n, U (2 * r) Q (2 * n + 1) % 2 = 1 ∧ U (2 * r) Q (2 * n) % 2 = 0 := by
      intro n
      induction n with
      | zero => exact ⟨rfl, rfl⟩
      | succ n ih =>
        obtain ⟨h1, h2⟩ := ih
        have e1 : U (2 * r) Q (2 * (n + 1)) = 2 * r * U (2 * r) Q (2 * n + 1) - Q * U (2 * r) Q (2 * n) := by rw [show 2 * (n + 1) = 2 * n + 2 by omega]; rfl
        have e2 : U (2 * r) Q (2 * (n + 1) + 1) = 2 * r * U (2 * r) Q (2 * (n + 1)) - Q * U (2 * r) Q (2 * n + 1) := by rw [show 2 * (n + 1) + 1 = 2 * n + 1 + 2 by omega]; rfl
        have e3 : U (2 * r) Q (2 * (n + 1)) % 2 = 0 := by
          rw [e1, Int.mul_assoc]
          have : (Q * U (2 * r) Q (2 * n)) % 2 = 0 := by rw [Int.mul_emod, h2, Int.mul_zero]; rfl
          omega
        refine ⟨?_, e3⟩
        rw [e2, Int.mul_assoc]
        have : (Q * U (2 * r) Q (2 * n + 1)) % 2 = 1 := by rw [Int.mul_emod, h1, hQ]; rfl
        omega
    have m1 : m = 2 * (m / 2) + 1 := by omega
    have := (key (m / 2)).1
    rw [← m1] at this
    have z : (2 : Int) ∣ U (2 * r) Q m := z
    omega
  · rw [U_2]
    exact ⟨r, by show 2 * r = (2 : Int) ^ 1 * r; rw [Int.pow_succ, Int.pow_zero, Int.one_mul], fun z => by have z : (2 : Int) ∣ r := z; omega⟩
/-- the ground of a prime: the number whose first place is the prime's ground -/
def Grd (l : Nat) : Nat := if l = 2 then 4 else l
theorem grow {l : Nat} (h : Pr l) {p q : Int} (hq : ¬ (l : Int) ∣ q) {a : Nat} (ha : (Grd l : Int) ∣ U p q a) : (∀ m, ¬ l ∣ m → Vl l (U (V p q a) (q ^ a) m) 0) ∧ Vl l (U (V p q a) (q ^ a) l) 1 := by
  unfold Grd at ha
  by_cases e : l = 2
  · subst e
    exact grow_two hq ha
  · rw [if_neg e] at ha
    exact grow_odd h e hq ha
theorem Grd_dvd (l : Nat) : l ∣ Grd l := by
  unfold Grd
  split
  · rename_i e; subst e; decide
  · exact Nat.dvd_refl l
/-- how often l divides the terms at the multiples of a grounded place -/
theorem lte {l : Nat} (h : Pr l) {p q : Int} (hq : ¬ (l : Int) ∣ q) {g e : Nat} (hg : (Grd l : Int) ∣ U p q g) (hv : Vl l (U p q g) e) : ∀ (j m : Nat), ¬ l ∣ m → Vl l (U p q (g * (l ^ j * m))) (e + j)
  | 0, m, hm => by
    rw [Nat.pow_zero, Nat.one_mul, U_mulV]
    exact hv.mul h ((grow h hq hg).1 m hm)
  | j + 1, m, hm => by
    have ih := lte h hq hg hv j m hm
    have hg2 : (Grd l : Int) ∣ U p q (g * (l ^ j * m)) := by
      rw [U_mulV]; exact Int.dvd_mul_of_dvd_left hg
    have := ih.mul h ((grow h hq hg2).2)
    rw [← U_mulV] at this
    rw [show g * (l ^ (j + 1) * m) = g * (l ^ j * m) * l by rw [Nat.pow_succ]; grind]
    exact this
/-- a number of natural kind by a prime -/
theorem nat_split {l n : Nat} (h : Pr l) (n0 : 0 < n) : ∃ j m, n = l ^ j * m ∧ ¬ l ∣ m := by
  obtain ⟨j, c, hc, hd⟩ := Vl.exist h (x := (n : Int)) (by omega)
  have : l ^ j ∣ n := Int.natCast_dvd_natCast.mp ⟨c, by rw [Int.natCast_pow]; exact hc⟩
  obtain ⟨m, rfl⟩ := this
  refine ⟨j, m, rfl, fun z => hd ?_⟩
  rw [Int.natCast_mul, Int.natCast_pow] at hc
  have := Int.eq_of_mul_eq_mul_left (powI_ne h j) hc
  rw [← this]
  exact Int.natCast_dvd_natCast.mpr z
theorem nat_pow_dvd {l m j k : Nat} (h : Pr l) (hm : ¬ l ∣ m) : l ^ k ∣ l ^ j * m ↔ k ≤ j := by
  have v : Vl l ((l ^ j * m : Nat) : Int) j := ⟨m, by rw [Int.natCast_mul, Int.natCast_pow], fun z => hm (Int.natCast_dvd_natCast.mp z)⟩
  have := v.dvd h (k := k)
  rw [← Int.natCast_pow, Int.natCast_dvd_natCast] at this
  exact this
theorem Cop.pow {l k : Nat} {q : Int} (h : Pr l) (hq : ¬ (l : Int) ∣ q) : Cop (l ^ k) q :=
  Nat.Coprime.pow_left k (h.coprime fun z => hq (Int.ofNat_dvd_left.mpr z))
theorem Cop.pr {l : Nat} {q : Int} (h : Pr l) (hq : ¬ (l : Int) ∣ q) : Cop l q := h.coprime fun z => hq (Int.ofNat_dvd_left.mpr z)
/-- the first place of a power: of the ground (of the prime itself at 2), when there is no nought there -/
theorem IsRk.pow {l : Nat} (h : Pr l) {p q : Int} (hq : ¬ (l : Int) ∣ q) {g e : Nat} (hg : IsRk p q (Grd l) g) (hv : Vl l (U p q g) e) {k : Nat} (k2 : l = 2 → 2 ≤ k) (k1 : 1 ≤ k) : IsRk p q (l ^ k) (g * l ^ (k - e)) := by
  have gk : Grd l ∣ l ^ k := by
    unfold Grd
    split
    · rename_i e2; subst e2; exact Nat.pow_dvd_pow 2 (k2 rfl)
    · have := Nat.pow_dvd_pow l k1; rwa [Nat.pow_one] at this
  refine ⟨Nat.mul_pos hg.pos (Nat.pow_pos h.pos), fun n => ?_⟩
  constructor
  · intro hn
    have h1 : Dv p q (Grd l) n := Int.dvd_trans (Int.natCast_dvd_natCast.mpr gk) hn
    obtain ⟨m, rfl⟩ := (hg.iff n).mp h1
    rcases Nat.eq_zero_or_pos m with rfl | m0
    · exact Nat.dvd_zero _
    obtain ⟨j, m, rfl, hm⟩ := nat_split h m0
    have v := lte h hq hg.dv hv j m hm
    have : (l : Int) ^ k ∣ U p q (g * (l ^ j * m)) := by rw [← Int.natCast_pow]; exact hn
    have := (v.dvd h).mp this
    exact Nat.mul_dvd_mul_left g ((nat_pow_dvd h hm).mpr (by omega))
  · rintro ⟨c, rfl⟩
    rcases Nat.eq_zero_or_pos c with rfl | c0
    · exact .zero
    obtain ⟨j, m, rfl, hm⟩ := nat_split h c0
    have v := lte h hq hg.dv hv (k - e + j) m hm
    show ((l ^ k : Nat) : Int) ∣ _
    rw [Int.natCast_pow, show g * l ^ (k - e) * (l ^ j * m) = g * (l ^ (k - e + j) * m) by rw [Nat.pow_add]; grind, v.dvd h]
    omega
/-- where the ground has a nought -/
theorem IsRk.pow0 {l : Nat} {p q : Int} {g : Nat} (hg : IsRk p q (Grd l) g) (h0 : U p q g = 0) {k : Nat} (k2 : l = 2 → 2 ≤ k) (k1 : 1 ≤ k) : IsRk p q (l ^ k) g := by
  have gk : Grd l ∣ l ^ k := by
    unfold Grd
    split
    · rename_i e2; subst e2; exact Nat.pow_dvd_pow 2 (k2 rfl)
    · have := Nat.pow_dvd_pow l k1; rwa [Nat.pow_one] at this
  refine ⟨hg.pos, fun n => ⟨fun hn => (hg.iff n).mp (Int.dvd_trans (Int.natCast_dvd_natCast.mpr gk) hn), fun hd => ?_⟩⟩
  have : Dv p q (l ^ k) g := by unfold Dv; rw [h0]; exact Int.dvd_zero _
  exact this.dvd hd
/-- 4 divides the term at twice the place of 2 -/
theorem Dv.four {p q : Int} {r : Nat} (h : Dv p q 2 r) : Dv p q 4 (2 * r) := by
  unfold Dv at *
  obtain ⟨c, hc⟩ := h
  rw [U_dbl]
  exact ⟨c * (U p q (r + 1) - p * c), by rw [hc]; simp; grind⟩
theorem size_step {x y : Int} {a b B : Nat} (h1 : b * 1001 ≤ B) (h2 : a ≤ B) (a1 : x.natAbs ≤ 1000 * B) (a2 : y.natAbs ≤ 1000 * b) : a * 1001 ≤ B * 1001 ∧ (x - y).natAbs ≤ B * 1001 := by
  refine ⟨Nat.mul_le_mul_right _ h2, ?_⟩
  have h3 := Int.natAbs_sub_le x y
  refine Nat.le_trans h3 (Nat.le_trans (Nat.add_le_add a1 a2) ?_)
  clear h3 a1 a2
  have : 1000 * b ≤ B := Nat.le_trans (Nat.le_trans (Nat.mul_le_mul_right b (show 1000 ≤ 1001 by decide)) (Nat.le_of_eq (Nat.mul_comm 1001 b))) h1
  have e : B * 1001 = 1000 * B + B := by rw [Nat.mul_comm, Nat.succ_mul]
  rw [e]
  exact Nat.add_le_add_left this _
theorem U_size0 {p q : Int} (hp : -1000 ≤ p ∧ p ≤ 1000) (hq : -1000 ≤ q ∧ q ≤ 1000) : ∀ n, (U p q n).natAbs * 1001 ≤ 1001 ^ n ∧ (U p q (n + 1)).natAbs ≤ 1001 ^ n
  | 0 => by simp [U]
  | n + 1 => by
    obtain ⟨h1, h2⟩ := U_size0 hp hq n
    have a1 : (p * U p q (n + 1)).natAbs ≤ 1000 * 1001 ^ n := by
      rw [Int.natAbs_mul]; exact Nat.mul_le_mul (by omega) h2
    have a2 : (q * U p q n).natAbs ≤ 1000 * (U p q n).natAbs := by
      rw [Int.natAbs_mul]; exact Nat.mul_le_mul (by omega) (Nat.le_refl _)
    rw [Nat.pow_succ]
    exact size_step h1 h2 a1 a2
theorem U_size {p q : Int} (hp : -1000 ≤ p ∧ p ≤ 1000) (hq : -1000 ≤ q ∧ q ≤ 1000) (n : Nat) : (U p q n).natAbs ≤ 2 ^ (10 * n) := by
  have h := (U_size0 hp hq n).1
  have : 1001 ^ n ≤ (2 ^ 10) ^ n := Nat.pow_le_pow_left (by omega) n
  rw [← Nat.pow_mul] at this
  omega
end TM

/-! Orders; rounds. -/
namespace TM
structure IsOrd (a : Int) (m r : Nat) : Prop where
  pos : 0 < r
  iff : ∀ n, (m : Int) ∣ a ^ n - 1 ↔ r ∣ n
theorem IsOrd.unique {a : Int} {m r s : Nat} (h : IsOrd a m r) (g : IsOrd a m s) : r = s :=
  Nat.dvd_antisymm ((h.iff s).mp ((g.iff s).mpr (Nat.dvd_refl s))) ((g.iff r).mp ((h.iff r).mpr (Nat.dvd_refl r)))
theorem one_add {m a : Int} {x y : Nat} (h : m ∣ a ^ x - 1) (g : m ∣ a ^ y - 1) : m ∣ a ^ (x + y) - 1 := by
  obtain ⟨c, hc⟩ := h
  obtain ⟨d, hd⟩ := g
  exact ⟨a ^ y * c + d, by rw [Int.pow_add]; grind⟩
theorem one_mul {m a : Int} {x : Nat} (h : m ∣ a ^ x - 1) : ∀ k, m ∣ a ^ (x * k) - 1
  | 0 => by simp
  | k + 1 => by rw [Nat.mul_succ]; exact one_add (one_mul h k) h
theorem one_dvd {m a : Int} {x y : Nat} (h : m ∣ a ^ x - 1) (d : x ∣ y) : m ∣ a ^ y - 1 := by
  obtain ⟨k, rfl⟩ := d
  exact one_mul h k
theorem one_cop {m : Nat} {a : Int} {x : Nat} (m0 : m ≠ 0) (x0 : 0 < x) (h : (m : Int) ∣ a ^ x - 1) : Cop m a := by
  refine cop_of_pr m0 fun l hl hlm hd => ?_
  have h1 : (l : Int) ∣ a ^ x - 1 := Int.dvd_trans (Int.natCast_dvd_natCast.mpr hlm) h
  obtain ⟨k, rfl⟩ : ∃ k, x = k + 1 := ⟨x - 1, by omega⟩
  have h2 : (l : Int) ∣ a ^ (k + 1) := by rw [Int.pow_succ]; exact Int.dvd_mul_of_dvd_right hd
  have h3 := Int.dvd_sub h2 h1
  have e : a ^ (k + 1) - (a ^ (k + 1) - 1) = 1 := by omega
  rw [e] at h3
  have := Int.le_of_dvd (by decide) h3
  have := hl.1
  omega
theorem Cop.powR {m : Nat} {a : Int} (h : Cop m a) (n : Nat) : Nat.Coprime m (a ^ n).natAbs := by
  rw [Int.natAbs_pow]; exact Nat.Coprime.pow_right n h
theorem one_sub {m : Nat} {a : Int} {x y : Nat} (c : Cop m a) (h : (m : Int) ∣ a ^ x - 1) (g : (m : Int) ∣ a ^ (x + y) - 1) : (m : Int) ∣ a ^ y - 1 := by
  obtain ⟨u, hu⟩ := h
  obtain ⟨v, hv⟩ := g
  exact ⟨v - a ^ y * u, by rw [Int.pow_add] at hv; grind⟩
theorem one_mod {m : Nat} {a : Int} {x y : Nat} (c : Cop m a) (h : (m : Int) ∣ a ^ x - 1) (g : (m : Int) ∣ a ^ y - 1) : (m : Int) ∣ a ^ (y % x) - 1 := by
  have : x * (y / x) + y % x = y := Nat.div_add_mod y x
  exact one_sub c (one_mul h (y / x)) (this.symm ▸ g)
theorem IsOrd.of_least {a : Int} {m r : Nat} (c : Cop m a) (pos : 0 < r) (h : (m : Int) ∣ a ^ r - 1) (l : ∀ n, 0 < n → (m : Int) ∣ a ^ n - 1 → r ≤ n) : IsOrd a m r := by
  refine ⟨pos, fun n => ⟨fun hn => ?_, fun hd => one_dvd h hd⟩⟩
  have := one_mod c h hn
  rcases Nat.eq_zero_or_pos (n % r) with e | e
  · exact Nat.dvd_of_mod_eq_zero e
  · have h1 := l _ e this
    have h2 := Nat.mod_lt n pos
    omega
theorem IsOrd.exist {a : Int} {m n : Nat} (c : Cop m a) (n0 : 0 < n) (h : (m : Int) ∣ a ^ n - 1) : ∃ r, IsOrd a m r := by
  obtain ⟨r, ⟨r0, hr⟩, l⟩ := least_of (P := fun n => 0 < n ∧ (m : Int) ∣ a ^ n - 1) ⟨n0, h⟩
  exact ⟨r, .of_least c r0 hr fun n x y => l n ⟨x, y⟩⟩
theorem IsOrd.dv {a : Int} {m r : Nat} (h : IsOrd a m r) : (m : Int) ∣ a ^ r - 1 := (h.iff r).mpr (Nat.dvd_refl r)
theorem IsOrd.of_primes {a : Int} {m r : Nat} (c : Cop m a) (pos : 0 < r) (h : (m : Int) ∣ a ^ r - 1) (l : ∀ x, Pr x → x ∣ r → ¬ (m : Int) ∣ a ^ (r / x) - 1) : IsOrd a m r := by
  obtain ⟨g, hg⟩ := IsOrd.exist c pos h
  by_cases e : g = r
  · exact e ▸ hg
  · obtain ⟨x, hx, h1, h2⟩ := proper_pr pos ((hg.iff r).mp h) e
    exact absurd ((hg.iff _).mpr h2) (l x hx h1)
/-! Euler -/
theorem geo (x : Int) : ∀ n, (x - 1) * sumTo n (fun i => x ^ i) = x ^ n - 1
  | 0 => by simp [sumTo]
  | n + 1 => by rw [sumTo, Int.mul_add, geo x n, Int.pow_succ]; grind
theorem geo_mod {l x : Int} (h : l ∣ x - 1) : ∀ n : Nat, l ∣ sumTo n (fun i => x ^ i) - n
  | 0 => by simp [sumTo]
  | n + 1 => by
    have h1 := geo_mod h n
    have h2 := dvd_pow_sub h n
    rw [Int.one_pow] at h2
    have := Int.dvd_add h1 h2
    rw [sumTo]
    have e : sumTo n (fun i => x ^ i) - (n : Int) + (x ^ n - 1) = sumTo n (fun i => x ^ i) + x ^ n - ((n + 1 : Nat) : Int) := by omega
    rwa [e] at this
theorem lift_one {l j : Nat} {x : Int} (j1 : 1 ≤ j) (h : ((l ^ j : Nat) : Int) ∣ x - 1) : ((l ^ (j + 1) : Nat) : Int) ∣ x ^ l - 1 := by
  have h0 : (l : Int) ∣ x - 1 := by
    refine Int.dvd_trans (Int.natCast_dvd_natCast.mpr ?_) h
    have := Nat.pow_dvd_pow l j1
    rwa [Nat.pow_one] at this
  have h1 := geo_mod h0 l
  have h2 : (l : Int) ∣ sumTo l (fun i => x ^ i) := by
    have := Int.dvd_add h1 (Int.dvd_refl (l : Int))
    rwa [Int.sub_add_cancel] at this
  rw [← geo, Nat.pow_succ, Int.natCast_mul]
  exact Int.mul_dvd_mul h h2
theorem fermat1 {l : Nat} (h : Pr l) {a : Int} (n : ¬ (l : Int) ∣ a) : (l : Int) ∣ a ^ (l - 1) - 1 := by
  have h1 := fermat h a
  obtain ⟨k, rfl⟩ : ∃ k, l = k + 1 := ⟨l - 1, by have := h.1; omega⟩
  rw [Nat.add_sub_cancel]
  have e : a ^ (k + 1) - a = a * (a ^ k - 1) := by rw [Int.pow_succ]; grind
  rw [e] at h1
  rcases h.dvd_mulI h1 with y | y
  · exact absurd y n
  · exact y
theorem euler_pow {l : Nat} (h : Pr l) {a : Int} (n : ¬ (l : Int) ∣ a) : ∀ j, ((l ^ (j + 1) : Nat) : Int) ∣ a ^ ((l - 1) * l ^ j) - 1
  | 0 => by
    rw [Nat.pow_zero, Nat.mul_one, Nat.zero_add, Nat.pow_one]
    exact fermat1 h n
  | j + 1 => by
    have := lift_one (l := l) (j := j + 1) (by omega) (euler_pow h n j)
    rw [← Int.pow_mul, Nat.mul_assoc, ← Nat.pow_succ] at this
    exact this
theorem cop_dvd_prod {x y : Nat} {z : Int} (c : Nat.Coprime x y) (h : (x : Int) ∣ z) (g : (y : Int) ∣ z) : ((x * y : Nat) : Int) ∣ z :=
  Int.ofNat_dvd_left.mpr (c.mul_dvd_of_dvd_of_dvd (Int.ofNat_dvd_left.mp h) (Int.ofNat_dvd_left.mp g))
/-! rounds -/
structure IsRnd (p q : Int) (m r : Nat) : Prop where
  pos : 0 < r
  iff : ∀ n, (Dv p q m n ∧ (m : Int) ∣ U p q (n + 1) - 1) ↔ r ∣ n
theorem IsRnd.unique {p q : Int} {m r s : Nat} (h : IsRnd p q m r) (g : IsRnd p q m s) : r = s :=
  Nat.dvd_antisymm ((h.iff s).mp ((g.iff s).mpr (Nat.dvd_refl s))) ((g.iff r).mp ((h.iff r).mpr (Nat.dvd_refl r)))
theorem IsRnd.dv {p q : Int} {m r : Nat} (h : IsRnd p q m r) : Dv p q m r ∧ (m : Int) ∣ U p q (r + 1) - 1 := (h.iff r).mpr (Nat.dvd_refl r)
/-- behind the multiples of a divided place stand the powers of what stands behind it -/
theorem Dv.next {p q : Int} {m r : Nat} (h : Dv p q m r) : ∀ k, (m : Int) ∣ U p q (r * k + 1) - U p q (r + 1) ^ k
  | 0 => by simp [U]
  | k + 1 => by
    obtain ⟨c, hc⟩ := h.next k
    have h2 : (m : Int) ∣ U p q (r * k) := h.mul k
    obtain ⟨d, hd⟩ := h2
    rw [Nat.mul_succ, U_add, Int.pow_succ]
    exact ⟨c * U p q (r + 1) - q * d * U p q r, by rw [hd]; grind⟩
theorem IsRnd.of {p q : Int} {m r o : Nat} (h : IsRk p q m r) (g : IsOrd (U p q (r + 1)) m o) : IsRnd p q m (r * o) := by
  refine ⟨Nat.mul_pos h.pos g.pos, fun n => ?_⟩
  have key : ∀ k, (m : Int) ∣ U p q (r * k + 1) - 1 ↔ o ∣ k := fun k => by
    rw [← g.iff k]
    have hk := h.dv.next k
    constructor
    · intro y
      have := Int.dvd_sub y hk
      have e : U p q (r * k + 1) - 1 - (U p q (r * k + 1) - U p q (r + 1) ^ k) = U p q (r + 1) ^ k - 1 := by omega
      rwa [e] at this
    · intro y
      have := Int.dvd_add y hk
      have e : U p q (r + 1) ^ k - 1 + (U p q (r * k + 1) - U p q (r + 1) ^ k) = U p q (r * k + 1) - 1 := by omega
      rwa [e] at this
  constructor
  · rintro ⟨a, b⟩
    obtain ⟨k, rfl⟩ := (h.iff n).mp a
    exact Nat.mul_dvd_mul_left r ((key k).mp b)
  · rintro ⟨c, rfl⟩
    rw [Nat.mul_assoc]
    exact ⟨(h.iff _).mpr ⟨o * c, rfl⟩, (key _).mpr ⟨c, rfl⟩⟩
theorem IsOrd.cong {a b : Int} {m r : Nat} (h : IsOrd a m r) (c : (m : Int) ∣ a - b) : IsOrd b m r := by
  refine ⟨h.pos, fun n => ?_⟩
  rw [← h.iff n]
  have hn := dvd_pow_sub c n
  constructor
  · intro y
    have := Int.dvd_add y hn
    have e : b ^ n - 1 + (a ^ n - b ^ n) = a ^ n - 1 := by omega
    rwa [e] at this
  · intro y
    have := Int.dvd_sub y hn
    have e : a ^ n - 1 - (a ^ n - b ^ n) = b ^ n - 1 := by omega
    rwa [e] at this
theorem Cop.cong {a b : Int} {m : Nat} (m0 : m ≠ 0) (h : Cop m a) (c : (m : Int) ∣ a - b) : Cop m b := by
  refine cop_of_pr m0 fun l hl hlm hd => ?_
  have h1 : (l : Int) ∣ a - b := Int.dvd_trans (Int.natCast_dvd_natCast.mpr hlm) c
  have h2 := Int.dvd_add h1 hd
  rw [Int.sub_add_cancel] at h2
  have := Nat.dvd_gcd hlm (Int.ofNat_dvd_left.mp h2)
  rw [h] at this
  have := Nat.le_of_dvd (by decide) this
  have := hl.1
  omega
end TM

/-! Tables of two rows. -/
namespace TM
structure T2 where
  a : Int
  b : Int
  c : Int
  d : Int
def mm (x y : T2) : T2 := ⟨x.a * y.a + x.b * y.c, x.a * y.b + x.b * y.d, x.c * y.a + x.d * y.c, x.c * y.b + x.d * y.d⟩
def m1 : T2 := ⟨1, 0, 0, 1⟩
def mp (x : T2) : Nat → T2
  | 0 => m1
  | n + 1 => mm x (mp x n)
theorem T2.ext' {x y : T2} (h1 : x.a = y.a) (h2 : x.b = y.b) (h3 : x.c = y.c) (h4 : x.d = y.d) : x = y := by
  cases x; cases y; simp at h1 h2 h3 h4; simp [h1, h2, h3, h4]
theorem mm_assoc (x y z : T2) : mm (mm x y) z = mm x (mm y z) := by
  apply T2.ext' <;> simp only [mm] <;> grind
theorem m1_mm (x : T2) : mm m1 x = x := by apply T2.ext' <;> simp [mm, m1]
theorem mm_1 (x : T2) : mm x m1 = x := by apply T2.ext' <;> simp [mm, m1]
theorem mp_add (x : T2) (a : Nat) : ∀ b, mp x (a + b) = mm (mp x a) (mp x b) := by
  induction a with
  | zero => intro b; rw [Nat.zero_add, mp, m1_mm]
  | succ a ih => intro b; rw [Nat.succ_add, mp, mp, ih b, mm_assoc]
theorem mp_sq (x : T2) : ∀ n, mp (mm x x) n = mp x (2 * n)
  | 0 => rfl
  | n + 1 => by rw [Nat.mul_succ, mp, mp_sq x n, mp, mp, mm_assoc]
theorem mp_comm (x : T2) (n : Nat) : mm (mp x n) x = mm x (mp x n) := by
  have h1 := mp_add x n 1
  have h2 : mp x (n + 1) = mm x (mp x n) := rfl
  rw [← h2, h1]; congr 1; rw [mp, mp, mm_1]
def me (m : Int) (x y : T2) : Prop := m ∣ x.a - y.a ∧ m ∣ x.b - y.b ∧ m ∣ x.c - y.c ∧ m ∣ x.d - y.d
theorem me_refl (m : Int) (x : T2) : me m x x := by simp [me]
theorem me.trans {m : Int} {x y z : T2} (h : me m x y) (g : me m y z) : me m x z := by
  obtain ⟨h1, h2, h3, h4⟩ := h
  obtain ⟨g1, g2, g3, g4⟩ := g
  refine ⟨?_, ?_, ?_, ?_⟩
  · have := Int.dvd_add h1 g1; rwa [show x.a - y.a + (y.a - z.a) = x.a - z.a by omega] at this
  · have := Int.dvd_add h2 g2; rwa [show x.b - y.b + (y.b - z.b) = x.b - z.b by omega] at this
  · have := Int.dvd_add h3 g3; rwa [show x.c - y.c + (y.c - z.c) = x.c - z.c by omega] at this
  · have := Int.dvd_add h4 g4; rwa [show x.d - y.d + (y.d - z.d) = x.d - z.d by omega] at this
theorem me.mm {m : Int} {x y z w : T2} (h : me m x y) (g : me m z w) : me m (mm x z) (mm y w) := by
  obtain ⟨⟨a1, h1⟩, ⟨a2, h2⟩, ⟨a3, h3⟩, ⟨a4, h4⟩⟩ := h
  obtain ⟨⟨b1, g1⟩, ⟨b2, g2⟩, ⟨b3, g3⟩, ⟨b4, g4⟩⟩ := g
  simp only [me, TM.mm]
  refine ⟨⟨a1 * z.a + y.a * b1 + a2 * z.c + y.b * b3, by grind⟩, ⟨a1 * z.b + y.a * b2 + a2 * z.d + y.b * b4, by grind⟩, ⟨a3 * z.a + y.c * b1 + a4 * z.c + y.d * b3, by grind⟩, ⟨a3 * z.b + y.c * b2 + a4 * z.d + y.d * b4, by grind⟩⟩
theorem me.mp {m : Int} {x y : T2} (h : me m x y) : ∀ n, me m (mp x n) (mp y n)
  | 0 => me_refl m _
  | n + 1 => h.mm (me.mp h n)
def md (m : Int) (x : T2) : T2 := ⟨x.a % m, x.b % m, x.c % m, x.d % m⟩
theorem me_md (m : Int) (x : T2) : me m (md m x) x := by
  refine ⟨?_, ?_, ?_, ?_⟩ <;> (rw [← Int.dvd_neg, Int.neg_sub]; exact Int.dvd_self_sub_emod)
def mr (p q : Int) : T2 := ⟨p, -q, 1, 0⟩
theorem mp_mr (p q : Int) : ∀ n, (mp (mr p q) (n + 1)).a = U p q (n + 2) ∧ (mp (mr p q) (n + 1)).c = U p q (n + 1) ∧ (mp (mr p q) n).a = U p q (n + 1) ∧ (mp (mr p q) n).c = U p q n
  | 0 => by simp [mp, mm, m1, mr, U]
  | n + 1 => by
    obtain ⟨h1, h2, h3, h4⟩ := mp_mr p q n
    have e : mp (mr p q) (n + 1 + 1) = mm (mr p q) (mp (mr p q) (n + 1)) := rfl
    refine ⟨?_, ?_, h1, h2⟩
    · rw [e]
      show p * (mp (mr p q) (n + 1)).a + -q * (mp (mr p q) (n + 1)).c = _
      rw [h1, h2]
      have : U p q (n + 1 + 2) = p * U p q (n + 2) - q * U p q (n + 1) := rfl
      rw [this]; grind
    · rw [e]
      show 1 * (mp (mr p q) (n + 1)).a + 0 * (mp (mr p q) (n + 1)).c = _
      rw [h1, h2]; grind
end TM

/-! Factor lists stand for all; Euler for all; rounds of products. -/
namespace TM
theorem IsFac.exist : ∀ {n : Nat}, 1 ≤ n → ∃ L, IsFac n L := by
  intro n
  induction n using Nat.strongRecOn with
  | ind n ih =>
    intro h
    by_cases n1 : n = 1
    · exact ⟨[], by rw [n1]; rfl, by simp, by simp⟩
    · obtain ⟨x, px, dx⟩ := exists_pr (n := n) (by omega)
      obtain ⟨l, ⟨pl, dl⟩, least⟩ := least_of (P := fun l => Pr l ∧ l ∣ n) ⟨px, dx⟩
      obtain ⟨j, m, rfl, hm⟩ := nat_split pl (show 0 < n by omega)
      have m0 : 0 < m := Nat.pos_of_ne_zero fun z => hm (z ▸ Nat.dvd_zero l)
      have j0 : 1 ≤ j := by
        rcases Nat.eq_zero_or_pos j with z | z
        · subst z; rw [Nat.pow_zero, Nat.one_mul] at dl; exact absurd dl hm
        · exact z
      have lt : m < l ^ j * m := by
        have h1 : 2 ≤ l ^ j := by
          have := Nat.pow_le_pow_right (n := l) pl.pos j0
          rw [Nat.pow_one] at this
          exact Nat.le_trans pl.1 this
        have := Nat.mul_le_mul_right m h1
        omega
      obtain ⟨L, hL⟩ := ih m lt m0
      refine ⟨(l, j) :: L, ?_, ?_, ?_⟩
      · show l ^ j * prodF L = _
        rw [hL.prod]
      · intro y hy
        rcases List.mem_cons.mp hy with rfl | hy
        · exact ⟨pl, j0⟩
        · exact hL.pr y hy
      · refine List.pairwise_cons.mpr ⟨fun y hy => ?_, hL.asc⟩
        have py := hL.pr y hy
        have dy : y.1 ∣ m := by
          have h1 := hL.mem_dvd (l := y.1) (e := y.2) hy
          have h2 := Nat.pow_dvd_pow y.1 py.2
          rw [Nat.pow_one] at h2
          exact Nat.dvd_trans h2 h1
        have := least y.1 ⟨py.1, Nat.dvd_trans dy (Nat.dvd_mul_left m _)⟩
        have ne : y.1 ≠ l := fun e => hm (e ▸ dy)
        show l < y.1
        omega
theorem euler_L {a : Int} : ∀ {L : List (Nat × Nat)} {n : Nat}, IsFac n L → Cop n a → ∃ N, 0 < N ∧ N ≤ n ∧ (n : Int) ∣ a ^ N - 1
  | [], n, h, _ => ⟨1, by decide, by have := h.prod; rw [← this]; exact Nat.le_refl 1, by have := h.prod; rw [← this]; exact ⟨a ^ 1 - 1, by simp [prodF]⟩⟩
  | (l, j) :: L, n, h, c => by
    have hp : n = l ^ j * prodF L := h.prod.symm
    have pl := (h.pr (l, j) (by simp)).1
    have j1 : 1 ≤ j := (h.pr (l, j) (by simp)).2
    have h' : IsFac (prodF L) L := ⟨rfl, fun x hx => h.pr x (List.mem_cons_of_mem _ hx), (List.pairwise_cons.mp h.asc).2⟩
    obtain ⟨N, N0, Nl, Nd⟩ := euler_L h' (c.dvd ⟨l ^ j, by rw [hp, Nat.mul_comm]⟩)
    have lj : l ∣ l ^ j := by have := Nat.pow_dvd_pow l j1; rwa [Nat.pow_one] at this
    have na : ¬ (l : Int) ∣ a := fun z => by
      have := Nat.dvd_gcd (show l ∣ n from hp ▸ Nat.dvd_trans lj (Nat.dvd_mul_right _ _)) (Int.ofNat_dvd_left.mp z)
      rw [c] at this
      have := Nat.le_of_dvd (by decide) this
      have := pl.1
      omega
    have eu := euler_pow pl na (j - 1)
    rw [show j - 1 + 1 = j by omega] at eu
    have st0 : 0 < (l - 1) * l ^ (j - 1) := Nat.mul_pos (by have := pl.1; omega) (Nat.pow_pos pl.pos)
    have stl : (l - 1) * l ^ (j - 1) ≤ l ^ j := by
      have : l ^ j = l * l ^ (j - 1) := by rw [Nat.mul_comm, ← Nat.pow_succ]; congr 1; omega
      rw [this]
      exact Nat.mul_le_mul_right _ (by omega)
    have cop : Nat.Coprime (l ^ j) (prodF L) := by
      refine Nat.Coprime.pow_left j (pl.coprime fun hd => ?_)
      obtain ⟨e', he⟩ := prodF_dvd (n := n) pl h'.pr hd
      exact Nat.lt_irrefl _ ((List.pairwise_cons.mp h.asc).1 (l, e') he)
    refine ⟨(l - 1) * l ^ (j - 1) * N, Nat.mul_pos st0 N0, hp ▸ Nat.mul_le_mul stl Nl, ?_⟩
    rw [hp]
    exact cop_dvd_prod cop (one_dvd eu ⟨N, rfl⟩) (one_dvd Nd ⟨_, Nat.mul_comm _ _⟩)
theorem ord_ex {a : Int} {m : Nat} (m1 : 1 ≤ m) (c : Cop m a) : ∃ o, IsOrd a m o ∧ o ≤ m := by
  obtain ⟨L, hL⟩ := IsFac.exist m1
  obtain ⟨N, N0, Nl, Nd⟩ := euler_L hL c
  obtain ⟨o, ho⟩ := IsOrd.exist c N0 Nd
  exact ⟨o, ho, Nat.le_trans (Nat.le_of_dvd N0 ((ho.iff N).mp Nd)) Nl⟩
theorem IsRnd.one (p q : Int) : IsRnd p q 1 1 := ⟨Nat.one_pos, fun n => ⟨fun _ => Nat.one_dvd n, fun _ => ⟨⟨U p q n, by simp⟩, ⟨U p q (n + 1) - 1, by simp⟩⟩⟩⟩
theorem IsRnd.mono {p q : Int} {m n r s : Nat} (h : IsRnd p q m r) (g : IsRnd p q n s) (d : m ∣ n) : r ∣ s :=
  (h.iff s).mp ⟨Int.dvd_trans (Int.natCast_dvd_natCast.mpr d) g.dv.1, Int.dvd_trans (Int.natCast_dvd_natCast.mpr d) g.dv.2⟩
theorem IsRnd.mul {p q : Int} {m n r s : Nat} (h : IsRnd p q m r) (g : IsRnd p q n s) (c : Nat.Coprime m n) : IsRnd p q (m * n) (Nat.lcm r s) := by
  refine ⟨Nat.lcm_pos h.pos g.pos, fun k => ?_⟩
  have h1 : ∀ z : Int, ((m * n : Nat) : Int) ∣ z ↔ (m : Int) ∣ z ∧ (n : Int) ∣ z := fun z =>
    ⟨fun hd => ⟨Int.dvd_trans ⟨(n : Int), by simp⟩ hd, Int.dvd_trans ⟨(m : Int), by rw [Int.natCast_mul, Int.mul_comm]⟩ hd⟩, fun ⟨a, b⟩ => cop_dvd_prod c a b⟩
  unfold Dv
  rw [h1, h1]
  have hi := h.iff k
  have gi := g.iff k
  unfold Dv at hi gi
  constructor
  · rintro ⟨⟨a, b⟩, ⟨c', d⟩⟩
    exact Nat.lcm_dvd (hi.mp ⟨a, c'⟩) (gi.mp ⟨b, d⟩)
  · intro hd
    obtain ⟨a, c'⟩ := hi.mpr (Nat.dvd_trans (Nat.dvd_lcm_left r s) hd)
    obtain ⟨b, d⟩ := gi.mpr (Nat.dvd_trans (Nat.dvd_lcm_right r s) hd)
    exact ⟨⟨a, b⟩, ⟨c', d⟩⟩
/-- behind a divided place all is multiplied -/
theorem Dv.shift {p q : Int} {m r : Nat} (h : Dv p q m r) : ∀ n, (m : Int) ∣ U p q (n + r) - U p q n * U p q (r + 1)
  | 0 => by rw [Nat.zero_add, U_0, Int.zero_mul, Int.sub_zero]; exact h
  | n + 1 => by
    obtain ⟨c, hc⟩ := h
    rw [show n + 1 + r = r + n + 1 by omega, U_add]
    exact ⟨- q * c * U p q n, by rw [hc]; grind⟩
theorem Dv.norm {p q : Int} {m r : Nat} (h : Dv p q m r) : (m : Int) ∣ U p q (r + 1) * U p q (r + 1) - q ^ r := by
  obtain ⟨c, hc⟩ := h
  have n1 := U_norm p q r
  exact ⟨p * c * U p q (r + 1) - q * c * U p q r, by rw [← n1, hc]; grind⟩
end TM

/-! Rows of each k-th term. -/
namespace TM
theorem V_dbla (p q : Int) (a n : Nat) : V p q (n + 2 * a) = V p q a * V p q (n + a) - q ^ a * V p q n := by
  have h1 := (U_dbla p q a n).1
  have h2 := (U_dbla p q a n).2
  rw [V_eq p q (n + 2 * a), V_eq p q (n + a), V_eq p q n, show n + 2 * a + 1 = n + 1 + 2 * a by omega, h2, h1, show n + a + 1 = n + 1 + a by omega]
  grind
theorem V_mulV (p q : Int) (a : Nat) : ∀ n, V p q (a * n) = V (V p q a) (q ^ a) n
  | 0 => by simp [V]
  | 1 => by rw [Nat.mul_one]; rfl
  | n + 2 => by
    have h1 := V_mulV p q a n
    have h2 := V_mulV p q a (n + 1)
    have e := V_dbla p q a (a * n)
    rw [show a * (n + 2) = a * n + 2 * a by rw [Nat.mul_add, Nat.mul_comm a 2], e, show a * n + a = a * (n + 1) by rw [Nat.mul_succ], h1, h2, V_ss]
theorem unit_dvd {m : Nat} {a b : Int} (c : Nat.Coprime m a.natAbs) : (m : Int) ∣ a * b ↔ (m : Int) ∣ b :=
  ⟨cop_dvd c, fun h => Int.dvd_mul_of_dvd_right h⟩
theorem each_rk {p q : Int} {k m r : Nat} (k0 : 0 < k) (hr : IsRk p q m r) (c : Cop m (U p q k)) : IsRk (V p q k) (q ^ k) m (r / Nat.gcd r k) := by
  have g0 : 0 < Nat.gcd r k := Nat.gcd_pos_of_pos_left _ hr.pos
  refine ⟨Nat.div_pos (Nat.gcd_le_left _ hr.pos) g0, fun n => ?_⟩
  have h1 : Dv (V p q k) (q ^ k) m n ↔ Dv p q m (k * n) := by
    unfold Dv
    rw [U_mulV, unit_dvd c]
  rw [h1, hr.iff]
  have cop : Nat.Coprime (r / Nat.gcd r k) (k / Nat.gcd r k) := Nat.coprime_div_gcd_div_gcd g0
  have er : Nat.gcd r k * (r / Nat.gcd r k) = r := Nat.mul_div_cancel' (Nat.gcd_dvd_left r k)
  have ek : Nat.gcd r k * (k / Nat.gcd r k) = k := Nat.mul_div_cancel' (Nat.gcd_dvd_right r k)
  constructor
  · intro h
    have h' : Nat.gcd r k * (r / Nat.gcd r k) ∣ Nat.gcd r k * (k / Nat.gcd r k * n) := by
      rw [er, ← Nat.mul_assoc, ek]; exact h
    exact cop.dvd_of_dvd_mul_left (Nat.dvd_of_mul_dvd_mul_left g0 h')
  · rintro ⟨c, rfl⟩
    refine ⟨k / Nat.gcd r k * c, ?_⟩
    generalize hg : Nat.gcd r k = g at *
    calc k * (r / g * c) = g * (k / g) * (r / g * c) := by rw [ek]
      _ = g * (r / g) * (k / g * c) := by grind
      _ = r * (k / g * c) := by rw [er]
theorem each_rnd {p q : Int} {k m r s : Nat} (hr : IsRnd p q m r) (hs : IsRnd (V p q k) (q ^ k) m s) (c : Cop m (U p q k)) : s ∣ r := by
  obtain ⟨d0, d1⟩ := hr.dv
  have dk : Dv p q m (k * r) ∧ (m : Int) ∣ U p q (k * r + 1) - 1 := (hr.iff (k * r)).mpr ⟨k, Nat.mul_comm _ _⟩
  refine (hs.iff r).mp ⟨?_, ?_⟩
  · have := dk.1
    unfold Dv at this ⊢
    rw [U_mulV] at this
    exact cop_dvd c this
  · have h1 := dk.1.shift k
    have e : k + k * r = k * (r + 1) := by rw [Nat.mul_succ, Nat.add_comm]
    rw [e, U_mulV] at h1
    refine cop_dvd (a := U p q k) c ?_
    obtain ⟨a, ha⟩ := h1
    obtain ⟨b, hb⟩ := dk.2
    exact ⟨a + U p q k * b, by grind⟩
end TM

/-! Signs by counting; the law of reciprocity. -/
namespace TM
/-! lists that run through the same -/
def lprod : List Int → Int
  | [] => 1
  | x :: r => x * lprod r
def lsum : List Int → Int
  | [] => 0
  | x :: r => x + lsum r
theorem lprod_perm {a b : List Int} (h : a.Perm b) : lprod a = lprod b := by
  induction h with
  | nil => rfl
  | cons x _ ih => simp only [lprod, ih]
  | swap x y l => simp only [lprod]; grind
  | trans _ _ h1 h2 => exact h1.trans h2
theorem lsum_perm {a b : List Int} (h : a.Perm b) : lsum a = lsum b := by
  induction h with
  | nil => rfl
  | cons x _ ih => simp only [lsum, ih]
  | swap x y l => simp only [lsum]; omega
  | trans _ _ h1 h2 => exact h1.trans h2
theorem perm_of_inj {n : Nat} : ∀ {a b : List Nat}, a.Nodup → b.length ≤ a.length → (∀ x ∈ a, x ∈ b) → a.Perm b
  | [], b, _, h, _ => by
    have : b = [] := List.length_eq_zero_iff.mp (by simpa using h)
    rw [this]
  | x :: a, b, nd, h, s => by
    have hx := s x (by simp)
    obtain ⟨nx, nd'⟩ := List.nodup_cons.mp nd
    have p := List.perm_cons_erase hx
    have lb := p.length_eq
    have := perm_of_inj (n := n) (a := a) (b := b.erase x) nd' (by simp at lb h; omega) fun y hy => by
      have hy' := s y (List.mem_cons_of_mem _ hy)
      have ne : y ≠ x := by rintro rfl; exact nx hy
      exact (List.mem_erase_of_ne ne).mpr hy'
    exact (List.Perm.cons x this).trans p.symm
/-- products and sums from 1 to h -/
def pT (h : Nat) (f : Nat → Int) : Int := lprod ((List.range h).map fun k => f (k + 1))
def sT (h : Nat) (f : Nat → Int) : Int := lsum ((List.range h).map fun k => f (k + 1))
theorem nodup_map {h : Nat} {π : Nat → Nat} (inj : ∀ x y, 1 ≤ x → x ≤ h → 1 ≤ y → y ≤ h → π x = π y → x = y) : ((List.range h).map fun k => π (k + 1)).Nodup := by
  rw [List.nodup_iff_pairwise_ne, List.pairwise_map]
  refine List.Pairwise.imp_of_mem ?_ (List.nodup_iff_pairwise_ne.mp List.nodup_range)
  intro a b ha hb ne e
  have ha := List.mem_range.mp ha
  have hb := List.mem_range.mp hb
  have := inj (a + 1) (b + 1) (by omega) (by omega) (by omega) (by omega) e
  omega
theorem perm_range {h : Nat} {π : Nat → Nat} (mp : ∀ x, 1 ≤ x → x ≤ h → 1 ≤ π x ∧ π x ≤ h) (inj : ∀ x y, 1 ≤ x → x ≤ h → 1 ≤ y → y ≤ h → π x = π y → x = y) : ((List.range h).map fun k => π (k + 1)).Perm ((List.range h).map fun k => k + 1) := by
  refine perm_of_inj (n := 0) (nodup_map inj) (by simp) fun x hx => ?_
  obtain ⟨k, hk, rfl⟩ := List.mem_map.mp hx
  have hk := List.mem_range.mp hk
  have := mp (k + 1) (by omega) (by omega)
  exact List.mem_map.mpr ⟨π (k + 1) - 1, List.mem_range.mpr (by omega), by omega⟩
theorem pT_perm {h : Nat} {π : Nat → Nat} (f : Nat → Int) (mp : ∀ x, 1 ≤ x → x ≤ h → 1 ≤ π x ∧ π x ≤ h) (inj : ∀ x y, 1 ≤ x → x ≤ h → 1 ≤ y → y ≤ h → π x = π y → x = y) : pT h (fun k => f (π k)) = pT h f := by
  have := lprod_perm ((perm_range mp inj).map f)
  rw [List.map_map, List.map_map] at this
  exact this
theorem sT_perm {h : Nat} {π : Nat → Nat} (f : Nat → Int) (mp : ∀ x, 1 ≤ x → x ≤ h → 1 ≤ π x ∧ π x ≤ h) (inj : ∀ x y, 1 ≤ x → x ≤ h → 1 ≤ y → y ≤ h → π x = π y → x = y) : sT h (fun k => f (π k)) = sT h f := by
  have := lsum_perm ((perm_range mp inj).map f)
  rw [List.map_map, List.map_map] at this
  exact this
theorem lprod_append : ∀ a b : List Int, lprod (a ++ b) = lprod a * lprod b
  | [], b => by simp [lprod]
  | x :: a, b => by simp only [List.cons_append, lprod, lprod_append a b]; grind
theorem lsum_append : ∀ a b : List Int, lsum (a ++ b) = lsum a + lsum b
  | [], b => by simp [lsum]
  | x :: a, b => by simp only [List.cons_append, lsum, lsum_append a b]; omega
theorem pT_0 (f : Nat → Int) : pT 0 f = 1 := rfl
theorem pT_s (h : Nat) (f : Nat → Int) : pT (h + 1) f = pT h f * f (h + 1) := by
  unfold pT
  rw [List.range_succ, List.map_append, lprod_append]
  simp [lprod]
theorem sT_0 (f : Nat → Int) : sT 0 f = 0 := rfl
theorem sT_s (h : Nat) (f : Nat → Int) : sT (h + 1) f = sT h f + f (h + 1) := by
  unfold sT
  rw [List.range_succ, List.map_append, lsum_append]
  simp [lsum]
theorem pT_congr {f g : Nat → Int} : ∀ {h : Nat}, (∀ k, 1 ≤ k → k ≤ h → f k = g k) → pT h f = pT h g
  | 0, _ => rfl
  | h + 1, e => by rw [pT_s, pT_s, pT_congr (h := h) fun k a b => e k a (by omega), e (h + 1) (by omega) (Nat.le_refl _)]
theorem sT_congr {f g : Nat → Int} : ∀ {h : Nat}, (∀ k, 1 ≤ k → k ≤ h → f k = g k) → sT h f = sT h g
  | 0, _ => rfl
  | h + 1, e => by rw [sT_s, sT_s, sT_congr (h := h) fun k a b => e k a (by omega), e (h + 1) (by omega) (Nat.le_refl _)]
theorem pT_mul (f g : Nat → Int) : ∀ h, pT h (fun k => f k * g k) = pT h f * pT h g
  | 0 => rfl
  | h + 1 => by rw [pT_s, pT_s, pT_s, pT_mul f g h]; grind
theorem pT_const (a : Int) : ∀ h, pT h (fun _ => a) = a ^ h
  | 0 => by rw [pT_0, Int.pow_zero]
  | h + 1 => by rw [pT_s, pT_const a h, Int.pow_succ]
theorem sT_add (f g : Nat → Int) : ∀ h, sT h (fun k => f k + g k) = sT h f + sT h g
  | 0 => rfl
  | h + 1 => by rw [sT_s, sT_s, sT_s, sT_add f g h]; omega
theorem pT_mod {m : Int} {f g : Nat → Int} : ∀ {h : Nat}, (∀ k, 1 ≤ k → k ≤ h → m ∣ f k - g k) → m ∣ pT h f - pT h g
  | 0, _ => by simp [pT_0]
  | h + 1, e => by
    obtain ⟨a, ha⟩ := pT_mod (h := h) fun k x y => e k x (by omega)
    obtain ⟨b, hb⟩ := e (h + 1) (by omega) (Nat.le_refl _)
    rw [pT_s, pT_s]
    exact ⟨a * f (h + 1) + pT h g * b, by grind⟩
theorem sT_mod {m : Int} {f g : Nat → Int} : ∀ {h : Nat}, (∀ k, 1 ≤ k → k ≤ h → m ∣ f k - g k) → m ∣ sT h f - sT h g
  | 0, _ => by simp [sT_0]
  | h + 1, e => by
    have h1 := sT_mod (h := h) fun k x y => e k x (by omega)
    have h2 := e (h + 1) (by omega) (Nat.le_refl _)
    rw [sT_s, sT_s]
    have := Int.dvd_add h1 h2
    have e : sT h f - sT h g + (f (h + 1) - g (h + 1)) = sT h f + f (h + 1) - (sT h g + g (h + 1)) := by omega
    rwa [e] at this
/-! the sign -/
def sg (a n k : Nat) : Int := if n / 2 < a * k % n then -1 else 1
def pi (a n k : Nat) : Nat := if n / 2 < a * k % n then n - a * k % n else a * k % n
def G (a n : Nat) : Int := pT (n / 2) (sg a n)
theorem sg_sq (a n k : Nat) : sg a n k * sg a n k = 1 := by unfold sg; split <;> rfl
theorem sg_pm (a n k : Nat) : sg a n k = 1 ∨ sg a n k = -1 := by unfold sg; split <;> simp
theorem pT_pm {f : Nat → Int} (hf : ∀ k, f k = 1 ∨ f k = -1) : ∀ h, pT h f = 1 ∨ pT h f = -1
  | 0 => .inl rfl
  | h + 1 => by
    rw [pT_s]
    rcases pT_pm hf h with a | a <;> rcases hf (h + 1) with b | b <;> rw [a, b] <;> simp
theorem G_pm (a n : Nat) : G a n = 1 ∨ G a n = -1 := pT_pm (sg_pm a n) _
/-- a k is the sign times the place, by n -/
theorem sg_pi {a n k : Nat} (n0 : 0 < n) : (n : Int) ∣ (a : Int) * k - sg a n k * pi a n k := by
  have h1 : (n : Int) ∣ (a : Int) * k - ((a * k % n : Nat) : Int) := by
    rw [Int.natCast_emod, Int.natCast_mul]
    exact Int.dvd_self_sub_emod
  unfold sg pi
  split
  · rename_i h
    have lt := Nat.mod_lt (a * k) (show 0 < n by omega)
    rw [Int.natCast_sub (by omega)]
    have := Int.dvd_add h1 (Int.dvd_refl (n : Int))
    have e : (a : Int) * k - ((a * k % n : Nat) : Int) + n = (a : Int) * k - -1 * ((n : Int) - ((a * k % n : Nat) : Int)) := by grind
    rwa [e] at this
  · rw [Int.one_mul]; exact h1
theorem pi_map {a n : Nat} (o : n % 2 = 1) (c : Nat.Coprime n a) : ∀ x, 1 ≤ x → x ≤ n / 2 → 1 ≤ pi a n x ∧ pi a n x ≤ n / 2 := by
  intro x x1 x2
  have lt := Nat.mod_lt (a * x) (show 0 < n by omega)
  have ne : a * x % n ≠ 0 := fun e => by
    have h1 := c.dvd_of_dvd_mul_left (Nat.dvd_of_mod_eq_zero e)
    have := Nat.le_of_dvd (by omega) h1
    omega
  unfold pi
  split <;> omega
/-- x and y of the half, x = y or x = - y by n: x = y -/
theorem half_eq {n x y : Nat} {s : Int} (o : n % 2 = 1) (hs : s = 1 ∨ s = -1) (x1 : 1 ≤ x) (x2 : x ≤ n / 2) (y1 : 1 ≤ y) (y2 : y ≤ n / 2) (h : (n : Int) ∣ (x : Int) - s * y) : s = 1 ∧ x = y := by
  obtain ⟨c, hc⟩ := h
  have n0 : 2 * (n / 2) ≤ n := Nat.mul_div_le n 2
  rcases hs with rfl | rfl
  · refine ⟨rfl, ?_⟩
    have c0 : c = 0 := by
      rcases Int.lt_trichotomy c 0 with z | z | z
      · have := Int.mul_le_mul_of_nonneg_left (show c ≤ -1 by omega) (show (0 : Int) ≤ n by omega)
        omega
      · exact z
      · have := Int.mul_le_mul_of_nonneg_left (show 1 ≤ c by omega) (show (0 : Int) ≤ n by omega)
        omega
    rw [c0] at hc
    omega
  · exfalso
    rcases Int.lt_or_le c 1 with z | z
    · have := Int.mul_le_mul_of_nonneg_left (show c ≤ 0 by omega) (show (0 : Int) ≤ n by omega)
      omega
    · have := Int.mul_le_mul_of_nonneg_left z (show (0 : Int) ≤ n by omega)
      omega
theorem pm_mul {s t : Int} (hs : s = 1 ∨ s = -1) (ht : t = 1 ∨ t = -1) : s * t = 1 ∨ s * t = -1 := by
  rcases hs with rfl | rfl <;> rcases ht with rfl | rfl <;> simp
theorem pi_inj {a n : Nat} (o : n % 2 = 1) (c : Nat.Coprime n a) : ∀ x y, 1 ≤ x → x ≤ n / 2 → 1 ≤ y → y ≤ n / 2 → pi a n x = pi a n y → x = y := by
  intro x y x1 x2 y1 y2 e
  obtain ⟨u, hu⟩ := sg_pi (a := a) (k := x) (show 0 < n by omega)
  obtain ⟨v, hv⟩ := sg_pi (a := a) (k := y) (show 0 < n by omega)
  have q := sg_sq a n y
  rw [e] at hu
  have h : (n : Int) ∣ (a : Int) * ((x : Int) - sg a n x * sg a n y * y) := ⟨u - sg a n x * sg a n y * v, by grind⟩
  have h2 := cop_dvd (a := (a : Int)) (by rw [Int.natAbs_natCast]; exact c) h
  exact (half_eq o (pm_mul (sg_pm a n x) (sg_pm a n y)) x1 x2 y1 y2 h2).2
/-- what the sign and the place are is told by the rest -/
theorem sg_unique {a n k y : Nat} {s : Int} (o : n % 2 = 1) (c : Nat.Coprime n a) (k1 : 1 ≤ k) (k2 : k ≤ n / 2) (hs : s = 1 ∨ s = -1) (y1 : 1 ≤ y) (y2 : y ≤ n / 2) (h : (n : Int) ∣ (a : Int) * k - s * y) : sg a n k = s ∧ pi a n k = y := by
  obtain ⟨p1, p2⟩ := pi_map o c k k1 k2
  obtain ⟨u, hu⟩ := sg_pi (a := a) (k := k) (show 0 < n by omega)
  obtain ⟨v, hv⟩ := h
  have q := sg_sq a n k
  have h2 : (n : Int) ∣ (pi a n k : Int) - sg a n k * s * y := ⟨sg a n k * (v - u), by grind⟩
  obtain ⟨e1, e2⟩ := half_eq o (pm_mul (sg_pm a n k) hs) p1 p2 y1 y2 h2
  refine ⟨?_, e2⟩
  rcases sg_pm a n k with z | z <;> rcases hs with w | w <;> rw [z, w] at e1 ⊢ <;> simp at e1
theorem G_mul {a b n : Nat} (o : n % 2 = 1) (ca : Nat.Coprime n a) (cb : Nat.Coprime n b) : G (a * b) n = G a n * G b n := by
  unfold G
  rw [← pT_perm (π := pi b n) (sg a n) (pi_map o cb) (pi_inj o cb), ← pT_mul]
  refine pT_congr fun k k1 k2 => ?_
  obtain ⟨p1, p2⟩ := pi_map o cb k k1 k2
  obtain ⟨q1, q2⟩ := pi_map o ca (pi b n k) p1 p2
  obtain ⟨u, hu⟩ := sg_pi (a := b) (k := k) (show 0 < n by omega)
  obtain ⟨v, hv⟩ := sg_pi (a := a) (k := pi b n k) (show 0 < n by omega)
  refine (sg_unique (s := sg a n (pi b n k) * sg b n k) (y := pi a n (pi b n k)) o (Nat.Coprime.mul_right ca cb) k1 k2 (pm_mul (sg_pm _ _ _) (sg_pm _ _ _)) q1 q2 ?_).1
  exact ⟨a * u + sg b n k * v, by rw [Int.natCast_mul]; grind⟩
theorem G_mod {a b n : Nat} (h : a % n = b % n) : G a n = G b n := by
  unfold G
  refine pT_congr fun k _ _ => ?_
  unfold sg
  rw [Nat.mul_mod, h, ← Nat.mul_mod]
theorem G_one (a : Nat) : G a 1 = 1 := rfl
/-! by a prime: Gauss -/
theorem pT_ndvd {l : Nat} (pl : Pr l) : ∀ {h : Nat}, h < l → ¬ (l : Int) ∣ pT h (fun k => (k : Int))
  | 0, _, z => by
    rw [pT_0] at z
    have := Int.le_of_dvd (by decide) z
    have := pl.1
    omega
  | h + 1, lt, z => by
    rw [pT_s] at z
    rcases pl.dvd_mulI z with y | y
    · exact pT_ndvd pl (h := h) (by omega) y
    · have := Int.le_of_dvd (by omega) y
      omega
theorem gauss {l a : Nat} (pl : Pr l) (o : l % 2 = 1) (n : ¬ l ∣ a) : (l : Int) ∣ (a : Int) ^ (l / 2) - G a l := by
  have c := pl.coprime n
  have h1 : (l : Int) ∣ pT (l / 2) (fun k => (a : Int) * k) - pT (l / 2) (fun k => sg a l k * pi a l k) := pT_mod fun k _ _ => sg_pi pl.pos
  rw [pT_mul (fun _ => (a : Int)) (fun k => (k : Int)), pT_mul (sg a l) (fun k => (pi a l k : Int)), pT_perm (π := pi a l) (fun k => (k : Int)) (pi_map o c) (pi_inj o c), pT_const] at h1
  have h2 : (l : Int) ∣ pT (l / 2) (fun k => (k : Int)) * ((a : Int) ^ (l / 2) - G a l) := by
    obtain ⟨u, hu⟩ := h1
    exact ⟨u, by unfold G; grind⟩
  rcases pl.dvd_mulI h2 with y | y
  · exact absurd y (pT_ndvd pl (Nat.div_lt_self pl.pos (by decide)))
  · exact y
/-! of 2 -/
def tw (h : Nat) (m : Nat) : Int := pT m (fun k => if h < 2 * k then -1 else 1)
theorem tw_lo {h : Nat} : ∀ {m : Nat}, 2 * m ≤ h → tw h m = 1
  | 0, _ => rfl
  | m + 1, l => by
    unfold tw
    rw [pT_s]
    have := tw_lo (h := h) (m := m) (by omega)
    unfold tw at this
    rw [this, if_neg (by omega)]; rfl
theorem tw_hi {h : Nat} : ∀ d : Nat, tw h (h / 2 + d) = (-1) ^ d
  | 0 => by rw [Nat.add_zero, tw_lo (Nat.mul_div_le h 2)]; rfl
  | d + 1 => by
    have := tw_hi (h := h) d
    unfold tw at this ⊢
    rw [← Nat.add_assoc, pT_s, this, if_pos (by omega), Int.pow_succ]
theorem negpow (d : Nat) : (-1 : Int) ^ d = if d % 2 = 0 then 1 else -1 := by
  induction d with
  | zero => rfl
  | succ d ih => rw [Int.pow_succ, ih]; split <;> split <;> first | omega | rfl
theorem G_two {n : Nat} (o : n % 2 = 1) : G 2 n = if n % 8 = 3 ∨ n % 8 = 5 then -1 else 1 := by
  have e : G 2 n = tw (n / 2) (n / 2) := by
    unfold G tw
    refine pT_congr fun k k1 k2 => ?_
    unfold sg
    rw [Nat.mod_eq_of_lt (by omega)]
  have e2 := tw_hi (h := n / 2) (n / 2 - n / 2 / 2)
  rw [show n / 2 / 2 + (n / 2 - n / 2 / 2) = n / 2 by omega] at e2
  rw [e, e2, negpow]
  split <;> split <;> first | rfl | omega
/-! reciprocity -/
def T (a n : Nat) : Int := sT (n / 2) (fun k => ((a * k / n : Nat) : Int))
theorem G_T {a n : Nat} (oa : a % 2 = 1) (o : n % 2 = 1) (c : Nat.Coprime n a) : ∃ e : Nat, G a n = (-1) ^ e ∧ (2 : Int) ∣ T a n - e := by
  have key : ∀ h, ∃ e : Nat, pT h (sg a n) = (-1) ^ e ∧ (e : Int) = sT h (fun k => if n / 2 < a * k % n then 1 else 0) := by
    intro h
    induction h with
    | zero => exact ⟨0, rfl, rfl⟩
    | succ h ih =>
      obtain ⟨e, h1, h2⟩ := ih
      rw [pT_s, sT_s, h1]
      unfold sg
      split
      · exact ⟨e + 1, by rw [Int.pow_succ], by omega⟩
      · exact ⟨e, by rw [Int.mul_one], by omega⟩
  obtain ⟨e, h1, h2⟩ := key (n / 2)
  refine ⟨e, h1, ?_⟩
  -- by 2: k is floor + place + sign
  have h3 : (2 : Int) ∣ sT (n / 2) (fun k => (k : Int)) - sT (n / 2) (fun k => ((a * k / n : Nat) : Int) + ((pi a n k : Nat) : Int) + if n / 2 < a * k % n then 1 else 0) := by
    refine sT_mod fun k _ _ => ?_
    have dm := Nat.div_add_mod (a * k) n
    have lt := Nat.mod_lt (a * k) (show 0 < n by omega)
    have e1 : a * k % 2 = k % 2 := by rw [Nat.mul_mod, oa, Nat.one_mul, Nat.mod_mod]
    have e2 : n * (a * k / n) % 2 = (a * k / n) % 2 := by rw [Nat.mul_mod, o, Nat.one_mul, Nat.mod_mod]
    unfold pi
    split <;> omega
  rw [sT_add (fun k => ((a * k / n : Nat) : Int) + ((pi a n k : Nat) : Int)), sT_add (fun k => ((a * k / n : Nat) : Int)), sT_perm (π := pi a n) (fun k => (k : Int)) (pi_map o c) (pi_inj o c), ← h2] at h3
  show (2 : Int) ∣ sT (n / 2) (fun k => ((a * k / n : Nat) : Int)) - e
  omega
theorem sT_const (c : Int) : ∀ h, sT h (fun _ => c) = h * c
  | 0 => by simp [sT_0]
  | h + 1 => by rw [sT_s, sT_const c h, Int.natCast_succ]; grind
theorem sT_swap (f : Nat → Nat → Int) (g : Nat) : ∀ h, sT h (fun x => sT g (fun y => f x y)) = sT g (fun y => sT h (fun x => f x y))
  | 0 => by rw [sT_0]; rw [show (fun y => sT 0 fun x => f x y) = fun _ => 0 from rfl, sT_const]; simp
  | h + 1 => by
    rw [sT_s, sT_swap f g h, ← sT_add]
    exact sT_congr fun y _ _ => (sT_s h (fun x => f x y)).symm
/-- a floor is a count -/
theorem floor_count {n m : Nat} (n0 : 0 < n) : ∀ g : Nat, sT g (fun y => if n * y ≤ m then 1 else 0) = ((min g (m / n) : Nat) : Int)
  | 0 => by simp [sT_0]
  | g + 1 => by
    rw [sT_s, floor_count n0 g]
    have : n * (g + 1) ≤ m ↔ g + 1 ≤ m / n := by rw [Nat.le_div_iff_mul_le n0, Nat.mul_comm]
    split <;> omega
theorem T_sum {a n : Nat} (oa : a % 2 = 1) (o : n % 2 = 1) (c : Nat.Coprime n a) : T a n + T n a = ((n / 2 : Nat) : Int) * ((a / 2 : Nat) : Int) := by
  have half : ∀ {a n k : Nat}, a % 2 = 1 → n % 2 = 1 → k ≤ n / 2 → a * k / n ≤ a / 2 := fun {a n k} oa o k2 => by
    have h1 : a * k ≤ a * (n / 2) := Nat.mul_le_mul_left a k2
    have h2 : a * k / n < a / 2 + 1 := by
      rw [Nat.div_lt_iff_lt_mul (by omega)]
      have e1 : a * n = a * (2 * (n / 2)) + a := by
        have : n = 2 * (n / 2) + 1 := by omega
        conv => lhs; rw [this]
        rw [Nat.mul_add, Nat.mul_one]
      have e2 : 2 * ((a / 2 + 1) * n) = a * n + n := by
        have : 2 * (a / 2 + 1) = a + 1 := by omega
        rw [← Nat.mul_assoc, this, Nat.succ_mul]
      have e3 : a * (2 * (n / 2)) = 2 * (a * (n / 2)) := by rw [Nat.mul_left_comm]
      omega
    omega
  have e1 : T a n = sT (n / 2) (fun x => sT (a / 2) (fun y => if n * y ≤ a * x then 1 else 0)) := by
    unfold T
    refine sT_congr fun k k1 k2 => ?_
    rw [floor_count (by omega), Nat.min_eq_right (half oa o k2)]
  have e2 : T n a = sT (a / 2) (fun y => sT (n / 2) (fun x => if a * x ≤ n * y then 1 else 0)) := by
    unfold T
    refine sT_congr fun k k1 k2 => ?_
    rw [floor_count (by omega), Nat.min_eq_right (half o oa k2)]
  rw [e1, e2, sT_swap, ← sT_add]
  have e3 : sT (a / 2) (fun y => sT (n / 2) (fun x => if n * y ≤ a * x then 1 else 0) + sT (n / 2) (fun x => if a * x ≤ n * y then 1 else 0)) = sT (a / 2) (fun _ => ((n / 2 : Nat) : Int)) := by
    refine sT_congr fun y y1 y2 => ?_
    rw [← sT_add, ← Int.mul_one ((n / 2 : Nat) : Int), ← sT_const]
    refine sT_congr fun x x1 x2 => ?_
    have ne : n * y ≠ a * x := fun e => by
      have d : n ∣ a * x := ⟨y, e.symm⟩
      have := Nat.le_of_dvd (by omega) (c.dvd_of_dvd_mul_left d)
      omega
    split <;> split <;> omega
  rw [e3, sT_const, Int.mul_comm]
theorem recip {a n : Nat} (oa : a % 2 = 1) (o : n % 2 = 1) (c : Nat.Coprime n a) : G a n = (if a % 4 = 3 ∧ n % 4 = 3 then -1 else 1) * G n a := by
  obtain ⟨e, h1, h2⟩ := G_T oa o c
  obtain ⟨f, g1, g2⟩ := G_T o oa c.symm
  have hs := T_sum oa o c
  rw [h1, g1, negpow, negpow]
  have hp : ((n / 2 : Nat) : Int) * ((a / 2 : Nat) : Int) = ((n / 2 * (a / 2) : Nat) : Int) := by rw [Int.natCast_mul]
  rw [hp] at hs
  have pm : n / 2 * (a / 2) % 2 = if a % 4 = 3 ∧ n % 4 = 3 then 1 else 0 := by
    rw [Nat.mul_mod]
    split
    · rename_i z
      rw [show n / 2 % 2 = 1 by omega, show a / 2 % 2 = 1 by omega]
    · rename_i z
      rcases Nat.mod_two_eq_zero_or_one (n / 2) with w | w
      · rw [w]; simp
      · rcases Nat.mod_two_eq_zero_or_one (a / 2) with w' | w'
        · rw [w']; simp
        · exact absurd ⟨by omega, by omega⟩ z
  split at pm <;> rename_i z
  · rw [if_pos z]
    split <;> split <;> first | rfl | omega
  · rw [if_neg z]
    split <;> split <;> first | rfl | omega
/-- what the program works out is the sign -/
def J (a n : Nat) : Int := if Nat.Coprime n a then G a n else 0
theorem jacN_J {far : Nat} : ∀ {near : Nat} {s : Int}, far % 2 = 1 → jacN near far s = s * J near far := by
  intro near
  induction near using Nat.strongRecOn generalizing far with
  | ind near ih =>
    intro s o
    by_cases n0 : near = 0
    · subst n0
      rw [jacN_0]
      unfold J
      by_cases f1 : far = 1
      · subst f1
        rw [if_pos rfl, if_pos (by decide), G_one, Int.mul_one]
      · rw [if_neg f1, if_neg (by rw [Nat.coprime_zero_right]; exact f1), Int.mul_zero]
    · rcases Nat.mod_two_eq_zero_or_one near with e | e
      · rw [jacN_e n0 e, ih (near / 2) (by omega) o]
        have c2 : Nat.Coprime far 2 := (Nat.coprime_comm.mp (two_pr.coprime fun d => by omega))
        have en : near = 2 * (near / 2) := by omega
        unfold J
        by_cases c : Nat.Coprime far (near / 2)
        · have c' : Nat.Coprime far near := by rw [en]; exact Nat.Coprime.mul_right c2 c
          rw [if_pos c, if_pos c']
          conv => rhs; rw [en, G_mul o c2 c, G_two o]
          split <;> grind
        · have c' : ¬ Nat.Coprime far near := fun z => c (Nat.Coprime.coprime_dvd_right ⟨2, by omega⟩ z)
          rw [if_neg c, if_neg c', Int.mul_zero, Int.mul_zero]
      · have lt := Nat.mod_lt far (show 0 < near by omega)
        rw [jacN_o e, ih (far % near) lt e]
        have cc : Nat.Coprime near (far % near) ↔ Nat.Coprime far near := by
          unfold Nat.Coprime
          rw [Nat.gcd_comm near, ← Nat.gcd_rec, Nat.gcd_comm]
        unfold J
        by_cases c : Nat.Coprime far near
        · rw [if_pos (cc.mpr c), if_pos c, G_mod (Nat.mod_mod far near), recip e o c]
          split <;> split <;> first | grind | omega
        · rw [if_neg (fun z => c (cc.mp z)), if_neg c, Int.mul_zero, Int.mul_zero]
theorem sgn_jac {l : Nat} (pl : Pr l) (o : l ≠ 2) (a : Int) : Sgn l a (jac a l) := by
  have lo : l % 2 = 1 := by
    rcases Nat.mod_two_eq_zero_or_one l with e | e
    · rcases pl.2 2 (Nat.dvd_of_mod_eq_zero e) with z | z
      · omega
      · exact absurd z.symm o
    · exact e
  have l0 := pl.pos
  rw [jac_N a l0, jacN_J lo, Int.one_mul]
  have a0 := Int.emod_nonneg a (show (l : Int) ≠ 0 by omega)
  have ea : (((a % l).toNat : Nat) : Int) = a % l := Int.toNat_of_nonneg a0
  have da : (l : Int) ∣ a - (((a % l).toNat : Nat) : Int) := by rw [ea]; exact Int.dvd_self_sub_emod
  generalize (a % l).toNat = b at da
  have hb : (l : Int) ∣ a ↔ l ∣ b := by
    constructor
    · intro z
      have := Int.dvd_sub z da
      rw [Int.sub_sub_self] at this
      exact Int.natCast_dvd_natCast.mp this
    · intro z
      have := Int.dvd_add da (Int.natCast_dvd_natCast.mpr z)
      rwa [Int.sub_add_cancel] at this
  have hp := dvd_pow_sub da (l / 2)
  unfold J
  by_cases d : l ∣ b
  · have nc : ¬ Nat.Coprime l b := fun z => by
      have := Nat.dvd_gcd (Nat.dvd_refl l) d
      rw [z] at this
      have := Nat.le_of_dvd (by decide) this
      have := pl.1
      omega
    rw [if_neg nc]
    refine ⟨.inr (.inr rfl), ?_, fun _ => hb.mpr d, fun _ => rfl⟩
    rw [Int.sub_zero]
    obtain ⟨k, hk⟩ : ∃ k, l / 2 = k + 1 := ⟨l / 2 - 1, by have := pl.1; omega⟩
    rw [hk, Int.pow_succ]
    exact Int.dvd_mul_of_dvd_right (hb.mpr d)
  · rw [if_pos (pl.coprime d)]
    have g := gauss pl lo d
    refine ⟨?_, ?_, fun z => ?_, fun z => absurd (hb.mp z) d⟩
    · rcases G_pm b l with z | z
      · exact .inl z
      · exact .inr (.inl z)
    · have := Int.dvd_add hp g
      have e : a ^ (l / 2) - (b : Int) ^ (l / 2) + ((b : Int) ^ (l / 2) - G b l) = a ^ (l / 2) - G b l := by omega
      rwa [e] at this
    · exfalso
      rcases G_pm b l with w | w <;> rw [w] at z <;> exact absurd z (by decide)
end TM

/-! Common divisors of terms. -/
namespace TM
theorem cop_qn {p q : Int} (c : Int.gcd p q = 1) {n : Nat} (n0 : 0 < n) : Nat.Coprime q.natAbs (U p q n).natAbs := by
  obtain ⟨k, rfl⟩ : ∃ k, n = k + 1 := ⟨n - 1, by omega⟩
  have h := U_modq p q k
  have c1 : Nat.Coprime q.natAbs (p ^ k).natAbs := by
    rw [Int.natAbs_pow]
    exact Nat.Coprime.pow_right k (Nat.Coprime.symm c)
  -- what divides both divides the power of p
  have d : Nat.gcd q.natAbs (U p q (k + 1)).natAbs ∣ (p ^ k).natAbs := by
    have h1 : ((Nat.gcd q.natAbs (U p q (k + 1)).natAbs : Nat) : Int) ∣ q := Int.ofNat_dvd_left.mpr (Nat.gcd_dvd_left _ _)
    have h2 : ((Nat.gcd q.natAbs (U p q (k + 1)).natAbs : Nat) : Int) ∣ U p q (k + 1) := Int.ofNat_dvd_left.mpr (Nat.gcd_dvd_right _ _)
    have h3 := Int.dvd_sub h2 (Int.dvd_trans h1 h)
    rw [Int.sub_sub_self] at h3
    exact Int.ofNat_dvd_left.mp h3
  have := Nat.dvd_gcd (Nat.gcd_dvd_left q.natAbs (U p q (k + 1)).natAbs) d
  rw [c1] at this
  exact Nat.dvd_one.mp this
theorem Dv.gcd {p q : Int} {m : Nat} (hm : m ≠ 0) (hq : Cop m q) : ∀ {a b : Nat}, Dv p q m a → Dv p q m b → Dv p q m (Nat.gcd a b) := by
  intro a
  induction a using Nat.strongRecOn with
  | ind a ih =>
    intro b ha hb
    rcases Nat.eq_zero_or_pos a with rfl | a0
    · rw [Nat.gcd_zero_left]; exact hb
    · rw [Nat.gcd_rec]
      exact ih (b % a) (Nat.mod_lt b a0) (ha.mod hm hq hb) ha
theorem U_dvd {p q : Int} {a b : Nat} (h : a ∣ b) : U p q a ∣ U p q b := by
  obtain ⟨k, rfl⟩ := h
  rw [U_mulV]
  exact ⟨_, rfl⟩
theorem zero_gcd {p q : Int} (q0 : q ≠ 0) {a b : Nat} (ha : U p q a = 0) (hb : U p q b = 0) : U p q (Nat.gcd a b) = 0 := by
  rcases Nat.eq_zero_or_pos a with rfl | a0
  · rw [Nat.gcd_zero_left]; exact hb
  · obtain ⟨z, ⟨z0, hz⟩, l⟩ := least_of (P := fun n => 0 < n ∧ U p q n = 0) ⟨a0, ha⟩
    have zi := zero_iff q0 z0 hz fun k k0 hk => l k ⟨k0, hk⟩
    exact (zi _).mpr (Nat.dvd_gcd ((zi a).mp ha) ((zi b).mp hb))
theorem U_gcd {p q : Int} (q0 : q ≠ 0) (c : Int.gcd p q = 1) (a b : Nat) : Int.gcd (U p q a) (U p q b) = (U p q (Nat.gcd a b)).natAbs := by
  apply Nat.dvd_antisymm
  · by_cases g0 : Int.gcd (U p q a) (U p q b) = 0
    · obtain ⟨h1, h2⟩ := Int.gcd_eq_zero_iff.mp g0
      rw [zero_gcd q0 h1 h2]
      exact Nat.dvd_zero _
    · have d1 : Dv p q (Int.gcd (U p q a) (U p q b)) a := Int.gcd_dvd_left _ _
      have d2 : Dv p q (Int.gcd (U p q a) (U p q b)) b := Int.gcd_dvd_right _ _
      have cq : Cop (Int.gcd (U p q a) (U p q b)) q := by
        rcases Nat.eq_zero_or_pos a with rfl | a0
        · rcases Nat.eq_zero_or_pos b with rfl | b0
          · exact absurd (by simp [U]) g0
          · exact Nat.Coprime.coprime_dvd_left (Int.natAbs_dvd_natAbs.mpr (Int.gcd_dvd_right (U p q 0) (U p q b)) |> fun h => by rwa [Int.natAbs_natCast] at h) (cop_qn c b0).symm
        · exact Nat.Coprime.coprime_dvd_left (Int.natAbs_dvd_natAbs.mpr (Int.gcd_dvd_left (U p q a) (U p q b)) |> fun h => by rwa [Int.natAbs_natCast] at h) (cop_qn c a0).symm
      exact Int.ofNat_dvd_left.mp (Dv.gcd g0 cq d1 d2)
  · exact Nat.dvd_gcd (Int.natAbs_dvd_natAbs.mpr (U_dvd (Nat.gcd_dvd_left a b))) (Int.natAbs_dvd_natAbs.mpr (U_dvd (Nat.gcd_dvd_right a b)))
end TM

namespace TQ
open PySem PySem.Spec PyProof.Rows L2
local macro_rules | `(tactic| walk_at "tq") => `(tactic| try simp only [sSq, sAs, sAo, sAg, sPr, sPr3, sPrO, sPrO3, sIf, sRt, sEx, sAp, sXt, sSi0, sBk, sCt, sNx, sNever, tVr, tKc, tBin, tTs, tAn, tOo, tNo, tAnV, tOoV, tNoV, tIfE, tUnr, tTu, tLi, aNil, aCons, tCl, tClM, tBl,
  oAbs, oInt1, oMax2, oMin2, oLen, oAll, oAny, oTuple, oList, oIx, oIxS, tSeen, tIxN, seqS, tLenN, qNo, qSo, tSlc, tRv, tCat, tLrg1, tLrg2, tLrg3, tChn, tIsi, tIsi2, tOrL, oAdd, oSub, oMul, oDiv, oDivN, oDivZ, oMod, oModN, oPow, oNeg, oLt, oLe, oGt, oGe, oEq, oNe, oIsN, oNotN, isNon, oIsB, oNotB, oEqD, oNeD, oIn, intsOf, oCatT,
  gt, pt, gNm, gTp, gCn, gNl, stE, stM, tFo, iLs, iTp, iR1, iR2, iR3, iEn, iZp, tLcm, wpE, bkE, keepD, List.map_cons, List.map_nil, List.cons_append, List.nil_append, List.length_cons, List.length_nil, List.replicate_succ, List.replicate_zero, List.tail_cons, Option.map_some, Option.map_none,
  atI_0, atI_1, atI_2, atI_3, atI_m1, atI_m2, atI_m1c, atI_m1d, atI_m2c, Nat.reduceAdd, Nat.reduceSub, Nat.reduceLeDiff, Nat.reduceMul, Bool.and_true, Bool.true_and, Bool.and_false, Bool.false_and, Bool.not_true, Bool.not_false, Bool.or_false, Bool.false_or, Bool.or_true, Bool.true_or, true_and, and_true, forall_const, reduceCtorEq, false_implies, implies_true, ne_eq, not_false_eq_true, not_true_eq_false,
  isT_int_int, isT_int_bl, isT_int_str, isT_int_tup, isT_int_lst, isT_int_non, isT_bool_int, isT_bool_bl, isT_bool_str, isT_bool_tup, isT_bool_lst, isT_bool_non, isT_str_int, isT_str_bl, isT_str_str, isT_str_tup, isT_str_lst, isT_str_non, isT_tuple_int, isT_tuple_bl, isT_tuple_str, isT_tuple_tup, isT_tuple_lst, isT_tuple_non, isT_list_int, isT_list_bl, isT_list_str, isT_list_tup, isT_list_lst, isT_list_non,
  decide_eq_true_eq, decide_eq_false_iff_not, Bool.not_eq_true', Bool.not_eq_false'])
/-! is_number -/
def isNum : D → Bool
  | .int _ => true
  | _ => false
def S_is_number : FS := fun ds R => match ds with
  | [.int _] => R (.bl true)
  | [.bl _] => R (.bl false)
  | [.str _] => R (.bl false)
  | [.non] => R (.bl false)
  | [.tup _] => R (.bl false)
  | [.lst _] => R (.bl false)
  | _ => False
def rd_is_number_0 : TSt := (sRt (tAnV (tIsi "int" (tVr 0)) (tNoV (tIsi "bool" (tVr 0)))))
theorem sem_is_number (ds : List D) (R : D → Prop) (h : S_is_number ds R) : rd_is_number_0 ⟨fun _ => R .non, fun x _ => R x, fun _ => False, fun _ => False⟩ (stE ["thing"] ds) := by
  unfold S_is_number at h
  split at h <;> first | exact h.elim | skip
  all_goals (unfold rd_is_number_0; walk_at "tq")
  all_goals first | exact h | exact ⟨h, fun z => (nomatch z)⟩ | exact ⟨fun z => (nomatch z), fun _ => h⟩ | skip

theorem len_of_is_number {ds : List D} {R : D → Prop} (h : S_is_number ds R) : ds.length = 1 := by
  unfold S_is_number at h
  first | exact h.elim | (split at h <;> first | rfl | exact h.elim)
/-! is_within -/
def inB (x lo hi : Int) : Bool := decide (lo ≤ x) && decide (x ≤ hi)
def S_is_within : FS := fun ds R => match ds with
  | [.int x, .int lo, .int hi] => R (.bl (inB x lo hi))
  | [.bl _, .int _, .int _] => R (.bl false)
  | [.str _, .int _, .int _] => R (.bl false)
  | [.non, .int _, .int _] => R (.bl false)
  | [.tup _, .int _, .int _] => R (.bl false)
  | [.lst _, .int _, .int _] => R (.bl false)
  | _ => False
def rd_is_within_0 : TSt := (sRt (tAnV (tCl S_is_number (aCons (tVr 0) aNil)) (tChn oLe oLe (tVr 1) (tVr 0) (tVr 2))))
theorem sem_is_within (ds : List D) (R : D → Prop) (h : S_is_within ds R) : rd_is_within_0 ⟨fun _ => R .non, fun x _ => R x, fun _ => False, fun _ => False⟩ (stE ["thing", "least", "most"] ds) := by
  unfold S_is_within at h
  split at h <;> first | exact h.elim | skip
  all_goals (unfold rd_is_within_0; walk_at "tq"; simp only [S_is_number]; walk_at "tq")
  all_goals first | exact h | skip
  rename_i x lo hi
  refine ⟨fun a => ?_, fun a => ?_⟩
  · have e : inB x lo hi = decide (x ≤ hi) := by simp [inB, a]
    rw [e] at h; exact h
  · have e : inB x lo hi = false := by simp [inB, a]
    rw [e] at h; exact h

theorem len_of_is_within {ds : List D} {R : D → Prop} (h : S_is_within ds R) : ds.length = 3 := by
  unfold S_is_within at h
  first | exact h.elim | (split at h <;> first | rfl | exact h.elim)
/-! sure_within -/
def S_sure_within : FS := fun ds R => match ds with
  | [.int x, .int lo, .int hi] => lo ≤ x ∧ x ≤ hi ∧ R (.int x)
  | _ => False
def rd_sure_within_0a_0 : TSt := sNever
def rd_sure_within_1 : TSt := (sRt (tVr 0))
def rd_sure_within_0 : TSt := sSq (sIf (tNo (tTs (tCl S_is_within (aCons (tVr 0) (aCons (tVr 1) (aCons (tVr 2) aNil)))))) rd_sure_within_0a_0 sNx) rd_sure_within_1
theorem sem_sure_within (ds : List D) (R : D → Prop) (h : S_sure_within ds R) : rd_sure_within_0 ⟨fun _ => R .non, fun x _ => R x, fun _ => False, fun _ => False⟩ (stE ["thing", "least", "most"] ds) := by
  unfold S_sure_within at h
  split at h <;> first | exact h.elim | skip
  rename_i x lo hi
  obtain ⟨h1, h2, h⟩ := h
  unfold rd_sure_within_0 rd_sure_within_0a_0 rd_sure_within_1; walk_at "tq"
  simp only [S_is_within]; walk_at "tq"
  have e : inB x lo hi = true := by simp only [inB, h1, h2, decide_true, Bool.and_true]
  rw [e]
  exact ⟨fun z => (nomatch z), fun _ => h⟩

theorem len_of_sure_within {ds : List D} {R : D → Prop} (h : S_sure_within ds R) : ds.length = 3 := by
  unfold S_sure_within at h
  first | exact h.elim | (split at h <;> first | rfl | exact h.elim)
/-! common -/
def S_common : FS := fun ds R => match ds with
  | [.int a, .int b] => R (.int (Int.gcd a b : Nat))
  | _ => False
def rd_common_1w_0 : TSt := (sPr 0 1 (aCons (tVr 1) (aCons (tBin oMod (tVr 0) (tVr 1)) aNil)))
def rd_common_2 : TSt := (sRt (tVr 0))
def rd_common_1 : TSt := sSq (tWh (tTs (tBin oNe (tVr 1) (tKc (.int 0)))) rd_common_1w_0) rd_common_2
def rd_common_0 : TSt := sSq (sPr 0 1 (aCons (tBl oAbs (aCons (tVr 0) aNil)) (aCons (tBl oAbs (aCons (tVr 1) aNil)) aNil))) rd_common_1
theorem abs_eq (a : Int) : (if a < 0 then -a else a) = (a.natAbs : Int) := by split <;> omega
theorem sem_common (ds : List D) (R : D → Prop) (h : S_common ds R) : rd_common_0 ⟨fun _ => R .non, fun x _ => R x, fun _ => False, fun _ => False⟩ (stE ["one", "other"] ds) := by
  unfold S_common at h
  split at h <;> first | exact h.elim | skip
  rename_i a b
  unfold rd_common_0; walk_at "tq"
  rw [abs_eq, abs_eq]
  unfold rd_common_1 rd_common_1w_0 rd_common_2; walk_at "tq"
  refine ⟨fun m E => ∃ x y : Nat, m = y ∧ E = [.d (.int x), .d (.int y)] ∧ Nat.gcd x y = Int.gcd a b, ⟨_, _, _, rfl, rfl, rfl⟩, ?_⟩
  rintro m E ⟨x, y, rfl, rfl, g⟩
  walk_at "tq"
  refine ⟨fun hy => ?_, fun hy => ?_⟩
  · have hy' : 0 < m := by omega
    refine ⟨by omega, x % m, Nat.mod_lt _ hy', m, x % m, rfl, ?_, ?_⟩
    · rw [Int.natCast_emod]
    · rw [← g, Nat.gcd_comm, ← Nat.gcd_rec, Nat.gcd_comm]
  · have hy' : m = 0 := by omega
    subst hy'
    rw [Nat.gcd_zero_right] at g
    rw [g]
    exact h

theorem len_of_common {ds : List D} {R : D → Prop} (h : S_common ds R) : ds.length = 2 := by
  unfold S_common at h
  first | exact h.elim | (split at h <;> first | rfl | exact h.elim)
/-! is_long -/
def S_is_long : FS := fun ds R => match ds with
  | [.tup xs, .int n] => R (.bl (decide ((xs.length : Int) = n)))
  | [.int _, .int _] => R (.bl false)
  | [.bl _, .int _] => R (.bl false)
  | [.str _, .int _] => R (.bl false)
  | [.non, .int _] => R (.bl false)
  | [.lst _, .int _] => R (.bl false)
  | _ => False
def rd_is_long_0 : TSt := (sRt (tAnV (tIsi "tuple" (tVr 0)) (tBin oEq (tLenN 0) (tVr 1))))
theorem sem_is_long (ds : List D) (R : D → Prop) (h : S_is_long ds R) : rd_is_long_0 ⟨fun _ => R .non, fun x _ => R x, fun _ => False, fun _ => False⟩ (stE ["thing", "length"] ds) := by
  unfold S_is_long at h
  split at h <;> first | exact h.elim | skip
  all_goals (unfold rd_is_long_0; walk_at "tq")
  all_goals exact h

theorem len_of_is_long {ds : List D} {R : D → Prop} (h : S_is_long ds R) : ds.length = 2 := by
  unfold S_is_long at h
  first | exact h.elim | (split at h <;> first | rfl | exact h.elim)
/-! are_numbers -/
def S_are_numbers : FS := fun ds R => match ds with
  | [.tup xs] => (∀ x ∈ xs, ∀ R' : D → Prop, R' (.bl (isNum x)) → S_is_number [x] R') ∧ xs.length ≤ 1000000 ∧ R (.bl (xs.all isNum))
  | [.int _] => R (.bl false)
  | [.bl _] => R (.bl false)
  | [.str _] => R (.bl false)
  | [.non] => R (.bl false)
  | [.lst _] => R (.bl false)
  | _ => False
theorem isN_ok {x : D} (h : match x with | .cls _ => False | .dK _ _ => False | .dT _ _ => False | .set _ _ => False | _ => True) : ∀ R' : D → Prop, R' (.bl (isNum x)) → S_is_number [x] R' := by
  intro R' q
  cases x <;> first | exact h.elim | exact q
theorem isN_int (i : Int) : ∀ R' : D → Prop, R' (.bl (isNum (.int i))) → S_is_number [.int i] R' := isN_ok trivial
def rd_are_numbers_0 : TSt := (sRt (tAnV (tIsi "tuple" (tVr 0)) (tBl oAll (aCons (tLcm (iTp (tVr 0)) (gNm 1) tYs (tCl S_is_number (aCons (tVr 1) aNil)) [1]) aNil))))
theorem sem_are_numbers (ds : List D) (R : D → Prop) (h : S_are_numbers ds R) : rd_are_numbers_0 ⟨fun _ => R .non, fun x _ => R x, fun _ => False, fun _ => False⟩ (stE ["thing", "own"] ds) := by
  unfold S_are_numbers at h
  split at h <;> first | exact h.elim | skip
  all_goals (unfold rd_are_numbers_0; walk_at "tq")
  all_goals first | exact h | exact ⟨fun z => (nomatch z), fun _ => h⟩ | skip
  rename_i xs
  obtain ⟨h1, h2, h⟩ := h
  refine ⟨h2, ?_⟩
  refine lc_map (fun x => .bl (isNum x)) (fun x KK K2 hx hK => ?_) ?_
  · walk_at "tq"
    simp only [tYs]; walk_at "tq"
    exact h1 x hx _ (hK _ rfl)
  · refine ⟨xs.map isNum, by rw [List.map_map]; rfl, ?_⟩
    rw [List.all_map]
    exact h

theorem len_of_are_numbers {ds : List D} {R : D → Prop} (h : S_are_numbers ds R) : ds.length = 1 := by
  unfold S_are_numbers at h
  first | exact h.elim | (split at h <;> first | rfl | exact h.elim)
/-! tupled -/
mutual
def tupD : D → D
  | .tup ds => .tup (tupDs ds)
  | .lst ds => .tup (tupDs ds)
  | .non => .non
  | .bl b => .bl b
  | .int i => .int i
  | .str x => .str x
  | .dK a b => .dK a b
  | .dT a b => .dT a b
  | .set a b => .set a b
  | .cls a => .cls a
def tupDs : List D → List D
  | [] => []
  | d :: ds => tupD d :: tupDs ds
end
theorem tupDs_map : ∀ ds : List D, tupDs ds = ds.map tupD
  | [] => rfl
  | d :: ds => by rw [tupDs, tupDs_map ds]; rfl
/-- data of numbers, texts and tuples, not deeper than n -/
def tupN : Nat → D → Prop
  | _, .int _ => True
  | _, .bl _ => True
  | _, .str _ => True
  | _, .non => True
  | n + 1, .tup ds => ds.length ≤ 1000000 ∧ ∀ d ∈ ds, tupN n d
  | _, _ => False
def S_tupledN (n : Nat) : FS := fun ds R => match ds with
  | [x] => tupN n x ∧ R (tupD x)
  | _ => False
def rd_tupled_0 (S_tupled : FS) : TSt := (sRt (tIfE (tTs (tIsi2 "list" "tuple" (tVr 0))) (tBl oTuple (aCons (tLcm (iTp (tVr 0)) (gNm 1) tYs (tCl S_tupled (aCons (tVr 1) aNil)) [1]) aNil)) (tVr 0)))
theorem sem_tupled (n : Nat) (S : FS) (hS : ∀ m, m + 1 = n → S = S_tupledN m) (ds : List D) (R : D → Prop) (h : S_tupledN n ds R) : rd_tupled_0 S ⟨fun _ => R .non, fun x _ => R x, fun _ => False, fun _ => False⟩ (stE ["value", "own"] ds) := by
  unfold S_tupledN at h
  split at h <;> first | exact h.elim | skip
  rename_i x
  obtain ⟨hx, h⟩ := h
  cases x with
  | int i => unfold rd_tupled_0; walk_at "tq"; exact h
  | bl i => unfold rd_tupled_0; walk_at "tq"; exact h
  | str i => unfold rd_tupled_0; walk_at "tq"; exact h
  | non => unfold rd_tupled_0; walk_at "tq"; exact h
  | tup xs =>
    cases n with
    | zero => exact hx.elim
    | succ m =>
      have e := hS m rfl
      subst e
      unfold rd_tupled_0; walk_at "tq"
      refine ⟨hx.1, ?_⟩
      refine lc_map tupD (fun x KK K2 hm hK => ?_) ?_
      · walk_at "tq"
        simp only [tYs, S_tupledN]; walk_at "tq"
        exact ⟨hx.2 x hm, hK _ rfl⟩
      · rw [tupD, tupDs_map] at h; exact h
  | lst xs => cases n <;> exact hx.elim
  | dK a b => cases n <;> exact hx.elim
  | dT a b => cases n <;> exact hx.elim
  | set a b => cases n <;> exact hx.elim
  | cls a => cases n <;> exact hx.elim
def S_tupled : FS := S_tupledN 8

theorem len_of_tupled {n : Nat} {ds : List D} {R : D → Prop} (h : S_tupledN n ds R) : ds.length = 1 := by
  unfold S_tupledN at h
  first | exact h.elim | (split at h <;> first | rfl | exact h.elim)
/-! is_rule_in -/
def RuleOk (p q : Int) : Prop := -1000 ≤ p ∧ p ≤ 1000 ∧ -1000 ≤ q ∧ q ≤ 1000 ∧ q ≠ 0
instance (p q : Int) : Decidable (RuleOk p q) := inferInstanceAs (Decidable (_ ∧ _))
def rl (p q : Int) : D := .tup [.int p, .int q]
def S_is_rule_in : FS := fun ds R => match ds with
  | [.tup [.int p, .int q]] => R (.bl (decide (RuleOk p q)))
  | _ => False
def rd_is_rule_in_0 : TSt := (sRt (tAnV (tCl S_is_long (aCons (tVr 0) (aCons (tKc (.int 2)) aNil))) (tAnV (tCl S_are_numbers (aCons (tVr 0) aNil)) (tAnV (tBl oAll (aCons (tLcm (iTp (tVr 0)) (gNm 1) tYs (tBin oLe (tBl oAbs (aCons (tVr 1) aNil)) (tKc (.int 1000))) [1]) aNil)) (tBin oNe (tSeen 0 (tKc (.int 1))) (tKc (.int 0)))))))
theorem sem_is_rule_in (ds : List D) (R : D → Prop) (h : S_is_rule_in ds R) : rd_is_rule_in_0 ⟨fun _ => R .non, fun x _ => R x, fun _ => False, fun _ => False⟩ (stE ["thing", "own"] ds) := by
  unfold S_is_rule_in at h
  split at h <;> first | exact h.elim | skip
  rename_i p q
  unfold rd_is_rule_in_0; walk_at "tq"
  simp only [S_is_long, S_are_numbers, List.length_cons, List.length_nil]
  refine ⟨fun _ => ?_, fun z => absurd z (by simp)⟩
  refine ⟨?_, by simp, fun _ => ?_, fun z => absurd z (by simp [isNum])⟩
  · intro x hx
    simp only [List.mem_cons, List.not_mem_nil, or_false] at hx
    rcases hx with rfl | rfl <;> exact isN_int _
  refine lc_map (fun x => match x with | .int i => .bl (decide ((i.natAbs : Int) ≤ 1000)) | _ => .non) (fun x KK K2 hm hK => ?_) ?_
  · simp only [List.mem_cons, List.not_mem_nil, or_false] at hm
    rcases hm with rfl | rfl
    all_goals
      walk_at "tq"
      simp only [tYs]; walk_at "tq"
      rw [abs_eq]
      exact hK _ rfl
  · refine ⟨[decide ((p.natAbs : Int) ≤ 1000), decide ((q.natAbs : Int) ≤ 1000)], rfl, ?_⟩
    simp only [List.all_cons, List.all_nil, id, Bool.and_true]
    walk_at "tq"
    refine ⟨fun e => ?_, fun e => ?_⟩
    · rw [Bool.and_eq_true, decide_eq_true_eq, decide_eq_true_eq] at e
      have : (!decide (q = 0)) = decide (RuleOk p q) := by
        rw [← decide_not, decide_eq_decide]; unfold RuleOk; omega
      rw [this]; exact h
    · have : decide (RuleOk p q) = false := by
        rw [decide_eq_false_iff_not]; intro z; unfold RuleOk at z
        rw [Bool.and_eq_false_iff, decide_eq_false_iff_not, decide_eq_false_iff_not] at e
        omega
      rw [this] at h; exact h

theorem len_of_is_rule_in {ds : List D} {R : D → Prop} (h : S_is_rule_in ds R) : ds.length = 1 := by
  unfold S_is_rule_in at h
  first | exact h.elim | (split at h <;> first | rfl | exact h.elim)
/-! sure_rule -/
def S_sure_rule : FS := fun ds R => match ds with
  | [.tup [.int p, .int q]] => RuleOk p q ∧ R (rl p q)
  | _ => False
def rd_sure_rule_1a_0 : TSt := sNever
def rd_sure_rule_2 : TSt := (sRt (tVr 1))
def rd_sure_rule_1 : TSt := sSq (sIf (tNo (tTs (tCl S_is_rule_in (aCons (tVr 1) aNil)))) rd_sure_rule_1a_0 sNx) rd_sure_rule_2
def rd_sure_rule_0 : TSt := sSq (sAs 1 (tCl S_tupled (aCons (tVr 0) aNil))) rd_sure_rule_1
theorem sem_sure_rule (ds : List D) (R : D → Prop) (h : S_sure_rule ds R) : rd_sure_rule_0 ⟨fun _ => R .non, fun x _ => R x, fun _ => False, fun _ => False⟩ (stE ["value", "own"] ds) := by
  unfold S_sure_rule at h
  split at h <;> first | exact h.elim | skip
  rename_i p q
  unfold rd_sure_rule_0; walk_at "tq"
  simp only [S_tupled, S_tupledN]
  refine ⟨⟨by simp, fun d hd => ?_⟩, ?_⟩
  · simp only [List.mem_cons, List.not_mem_nil, or_false] at hd
    rcases hd with rfl | rfl <;> trivial
  unfold rd_sure_rule_1 rd_sure_rule_1a_0 rd_sure_rule_2
  simp only [tupD, tupDs]; walk_at "tq"
  simp only [S_is_rule_in]
  rw [decide_eq_true h.1]; walk_at "tq"
  exact h.2

theorem len_of_sure_rule {ds : List D} {R : D → Prop} (h : S_sure_rule ds R) : ds.length = 1 := by
  unfold S_sure_rule at h
  first | exact h.elim | (split at h <;> first | rfl | exact h.elim)
/-! big_d -/
def S_big_d : FS := fun ds R => match ds with
  | [.tup [.int p, .int q]] => (-(2 ^ 60) < p ∧ p < 2 ^ 60) ∧ R (.int (TM.disc p q))
  | _ => False
def rd_big_d_0 : TSt := (sRt (tBin oSub (tBin oMul (tSeen 0 (tKc (.int 0))) (tSeen 0 (tKc (.int 0)))) (tBin oMul (tKc (.int 4)) (tSeen 0 (tKc (.int 1))))))
theorem sem_big_d (ds : List D) (R : D → Prop) (h : S_big_d ds R) : rd_big_d_0 ⟨fun _ => R .non, fun x _ => R x, fun _ => False, fun _ => False⟩ (stE ["rule"] ds) := by
  unfold S_big_d at h
  split at h <;> first | exact h.elim | skip
  rename_i p q
  unfold rd_big_d_0; walk_at "tq"
  exact ⟨.inl (.inl ⟨by omega, by omega⟩), .inl (.inl ⟨by decide, by decide⟩), h.2⟩

theorem len_of_big_d {ds : List D} {R : D → Prop} (h : S_big_d ds R) : ds.length = 1 := by
  unfold S_big_d at h
  first | exact h.elim | (split at h <;> first | rfl | exact h.elim)
/-! digits_of -/
def S_digits_of : FS := fun ds R => match ds with
  | [.int n] => 0 ≤ n ∧ n < 2 ^ 200 ∧ R (.lst ((TM.bitsL n.toNat).reverse.map fun d => .int (d : Nat)))
  | _ => False
def rd_digits_of_1w_1 : TSt := (sAs 2 (tBin oDiv (tVr 2) (tKc (.int 2))))
def rd_digits_of_1w_0 : TSt := sSq (sAp 1 (tBin oMod (tVr 2) (tKc (.int 2)))) rd_digits_of_1w_1
def rd_digits_of_2 : TSt := (sRt (tRv (tVr 1)))
def rd_digits_of_1 : TSt := sSq (tWh (tTs (tBin oGt (tVr 2) (tKc (.int 0)))) rd_digits_of_1w_0) rd_digits_of_2
def rd_digits_of_0 : TSt := sSq (sPrO 1 2 (tLi aNil) (aCons (tVr 0) aNil)) rd_digits_of_1
theorem sem_digits_of (ds : List D) (R : D → Prop) (h : S_digits_of ds R) : rd_digits_of_0 ⟨fun _ => R .non, fun x _ => R x, fun _ => False, fun _ => False⟩ (stE ["number", "found", "left"] ds) := by
  unfold S_digits_of at h
  split at h <;> first | exact h.elim | skip
  rename_i n
  obtain ⟨h0, h1, h⟩ := h
  unfold rd_digits_of_0; walk_at "tq"
  unfold rd_digits_of_1 rd_digits_of_1w_0 rd_digits_of_2; walk_at "tq"
  refine ⟨fun m E => ∃ (k : Nat) (done : List Nat), m = k ∧ E = [.d (.int n), .o (.lst (done.map fun d => .int (d : Nat))), .d (.int k)] ∧ done ++ TM.bitsL k = TM.bitsL n.toNat ∧ done.length + (TM.bitsL k).length ≤ 200,
    ⟨_, n.toNat, [], rfl, ?_, rfl, ?_⟩, ?_⟩
  · rw [Int.toNat_of_nonneg h0]; rfl
  · simpa using TM.bits_len (by omega)
  rintro m E ⟨k, done, rfl, rfl, e, l⟩
  walk_at "tq"
  refine ⟨fun hk => ?_, fun hk => ?_⟩
  · have hk' : m ≠ 0 := by omega
    rw [TM.bitsL_s hk'] at e l
    rw [List.length_cons] at l
    unfold rd_digits_of_1w_1; walk_at "tq"
    refine ⟨by decide, by simp; omega, cdw (by decide) (by decide), m / 2, Nat.div_lt_self (by omega) (by decide), m / 2, done ++ [m % 2], rfl, ?_, by simpa using e, by simp; omega⟩
    simp
  · have hk' : m = 0 := by omega
    subst hk'
    rw [TM.bitsL_0, List.append_nil] at e
    subst e
    rw [List.map_reverse] at h
    exact h

theorem len_of_digits_of {ds : List D} {R : D → Prop} (h : S_digits_of ds R) : ds.length = 1 := by
  unfold S_digits_of at h
  first | exact h.elim | (split at h <;> first | rfl | exact h.elim)
/-! pair_mod -/
def urest (p q : Int) (n : Nat) (m : Int) : Int := TM.U p q n % m
def PmOk (p q n m : Int) : Prop := -(2 ^ 60) < p ∧ p < 2 ^ 60 ∧ -(2 ^ 60) < q ∧ q < 2 ^ 60 ∧ 0 ≤ n ∧ n < 2 ^ 200 ∧ 0 < m ∧ m < 2 ^ 400000
def S_pair_mod : FS := fun ds R => match ds with
  | [.tup [.int p, .int q], .int n, .int m] => PmOk p q n m ∧ R (.tup [.int (urest p q n.toNat m), .int (urest p q (n.toNat + 1) m)])
  | _ => False
def rd_pair_mod_1f_2 : TSt := (sAg (gTp 2 (gCn (gNm 3) (gCn (gNm 4) gNl))) (tIfE (tTs (tBin oEq (tVr 5) (tKc (.int 0)))) (tTu (aCons (tVr 6) (aCons (tVr 7) aNil))) (tTu (aCons (tVr 7) (aCons (tBin oMod (tBin oSub (tBin oMul (tSeen 0 (tKc (.int 0))) (tVr 7)) (tBin oMul (tSeen 0 (tKc (.int 1))) (tVr 6))) (tVr 2)) aNil)))))
def rd_pair_mod_1f_1 : TSt := sSq (sAs 7 (tBin oMod (tBin oSub (tBin oMul (tVr 4) (tVr 4)) (tBin oMul (tBin oMul (tSeen 0 (tKc (.int 1))) (tVr 3)) (tVr 3))) (tVr 2))) rd_pair_mod_1f_2
def rd_pair_mod_1f_0 : TSt := sSq (sAs 6 (tBin oMod (tBin oMul (tVr 3) (tBin oSub (tBin oMul (tKc (.int 2)) (tVr 4)) (tBin oMul (tSeen 0 (tKc (.int 0))) (tVr 3)))) (tVr 2))) rd_pair_mod_1f_1
def rd_pair_mod_2 : TSt := (sRt (tTu (aCons (tVr 3) (aCons (tVr 4) aNil))))
def rd_pair_mod_1 : TSt := sSq (tFo (iLs (tCl S_digits_of (aCons (tVr 1) aNil))) (gNm 5) rd_pair_mod_1f_0) rd_pair_mod_2
def rd_pair_mod_0 : TSt := sSq (sPr 3 4 (aCons (tKc (.int 0)) (aCons (tBin oMod (tKc (.int 1)) (tVr 2)) aNil))) rd_pair_mod_1
theorem em_eq {a b m : Int} (h : m ∣ a - b) : a % m = b % m := Int.emod_eq_emod_iff_emod_sub_eq_zero.mpr (Int.emod_eq_zero_of_dvd h)
theorem dvd_em (a m : Int) : m ∣ a - a % m := Int.dvd_self_sub_emod
theorem pm_twice (p q m : Int) (k : Nat) : urest p q k m * (2 * urest p q (k + 1) m - p * urest p q k m) % m = urest p q (2 * k) m := by
  unfold urest
  rw [TM.U_dbl]
  apply em_eq
  obtain ⟨a, ha⟩ := dvd_em (TM.U p q k) m
  obtain ⟨b, hb⟩ := dvd_em (TM.U p q (k + 1)) m
  have e1 : TM.U p q k % m = TM.U p q k - m * a := by omega
  have e2 : TM.U p q (k + 1) % m = TM.U p q (k + 1) - m * b := by omega
  rw [e1, e2]
  exact ⟨(TM.U p q k - m * a) * (-2 * b + p * a) - a * (2 * TM.U p q (k + 1) - p * TM.U p q k), by grind⟩
theorem pm_beyond (p q m : Int) (k : Nat) : (urest p q (k + 1) m * urest p q (k + 1) m - q * urest p q k m * urest p q k m) % m = urest p q (2 * k + 1) m := by
  unfold urest
  rw [TM.U_dbl1]
  apply em_eq
  obtain ⟨a, ha⟩ := dvd_em (TM.U p q k) m
  obtain ⟨b, hb⟩ := dvd_em (TM.U p q (k + 1)) m
  have e1 : TM.U p q k % m = TM.U p q k - m * a := by omega
  have e2 : TM.U p q (k + 1) % m = TM.U p q (k + 1) - m * b := by omega
  rw [e1, e2]
  exact ⟨-2 * b * TM.U p q (k + 1) + m * b * b + 2 * q * a * TM.U p q k - q * m * a * a, by grind⟩
theorem pm_next (p q m : Int) (k : Nat) : (p * urest p q (k + 1) m - q * urest p q k m) % m = urest p q (k + 2) m := by
  unfold urest
  rw [TM.U_ss]
  apply em_eq
  obtain ⟨a, ha⟩ := dvd_em (TM.U p q k) m
  obtain ⟨b, hb⟩ := dvd_em (TM.U p q (k + 1)) m
  have e1 : TM.U p q k % m = TM.U p q k - m * a := by omega
  have e2 : TM.U p q (k + 1) % m = TM.U p q (k + 1) - m * b := by omega
  rw [e1, e2]
  exact ⟨-p * b + q * a, by grind⟩
theorem sz_ur {p q m : Int} {k a : Nat} (h0 : 0 < m) (h : Sz a m) : Sz a (urest p q k m) := h.mod h0
theorem sem_pair_mod (ds : List D) (R : D → Prop) (h : S_pair_mod ds R) : rd_pair_mod_0 ⟨fun _ => R .non, fun x _ => R x, fun _ => False, fun _ => False⟩ (stE ["rule", "number", "modulus", "near", "far", "digit", "twice", "beyond"] ds) := by
  unfold S_pair_mod at h
  split at h <;> first | exact h.elim | skip
  rename_i p q n m
  obtain ⟨⟨p1, p2, q1, q2, n1, n2, m1, m2⟩, h⟩ := h
  have sp : Sz 60 p := .of p1 p2
  have sq : Sz 60 q := .of q1 q2
  have sm : Sz 400000 m := .of (by have : (0 : Int) ≤ 2 ^ 400000 := Int.pow_nonneg (by decide); omega) m2
  unfold rd_pair_mod_0; walk_at "tq"
  refine ⟨m1, ?_⟩
  unfold rd_pair_mod_1; walk_at "tq"
  simp only [S_digits_of]
  refine ⟨n1, n2, ?_⟩
  refine for_inv (fun i E => ∃ a b c, E = [.d (rl p q), .d (.int n), .d (.int m), .d (.int (urest p q (TM.horner ((TM.bitsL n.toNat).reverse.take i)) m)), .d (.int (urest p q (TM.horner ((TM.bitsL n.toNat).reverse.take i) + 1) m)), a, b, c])
    ⟨.no, .no, .no, ?_⟩ ?_ ?_
  · simp only [List.take_zero, TM.horner, List.foldl_nil, urest, TM.U_0, TM.U_1, Int.zero_emod, Nat.zero_add]; rfl
  · rintro i x E KK hx ⟨a, b, c, rfl⟩ hK
    rw [List.getElem?_map] at hx
    cases e : (TM.bitsL n.toNat).reverse[i]? with
    | none => rw [e] at hx; cases hx
    | some d =>
      rw [e] at hx
      cases hx
      have hd : d < 2 := TM.bits_lt (List.mem_reverse.mp (List.mem_of_getElem? e))
      have et : TM.horner ((TM.bitsL n.toNat).reverse.take (i + 1)) = 2 * TM.horner ((TM.bitsL n.toNat).reverse.take i) + d := by
        unfold TM.horner
        rw [List.take_succ, e, List.foldl_append]; rfl
      rw [et] at hK
      generalize TM.horner ((TM.bitsL n.toNat).reverse.take i) = k at hK ⊢
      have s1 : Sz 400000 (urest p q k m) := sz_ur m1 sm
      have s2 : Sz 400000 (urest p q (k + 1) m) := sz_ur m1 sm
      have s3 : Sz 400000 (urest p q (2 * k) m) := sz_ur m1 sm
      have s4 : Sz 400000 (urest p q (2 * k + 1) m) := sz_ur m1 sm
      simp only [rl]
      unfold rd_pair_mod_1f_0 rd_pair_mod_1f_1; walk_at "tq"
      refine ⟨.l (by decide), .l (by omega), ?_, m1, .sz s2 s2, .l (by omega), .sz (sq.mul s1) s1, m1, ?_⟩
      · exact .sz s1 (((Sz.of (a := 2) (by decide) (by decide)).mul s2 |>.mono (by decide : 2 + 400000 ≤ 400060)).sub ((sp.mul s1).mono (by decide)))
      rw [pm_twice, pm_beyond]
      unfold rd_pair_mod_1f_2; walk_at "tq"
      refine ⟨fun z => ?_, fun z => ?_⟩
      · have : d = 0 := by omega
        subst this
        exact hK _ ⟨_, _, _, rfl⟩
      · have : d = 1 := by omega
        subst this
        refine ⟨.l (by omega), .l (by omega), m1, ?_⟩
        rw [pm_next]
        exact hK _ ⟨_, _, _, rfl⟩
  · rintro E ⟨a, b, c, rfl⟩
    rw [List.length_map, List.take_length, TM.horner_bits]
    unfold rd_pair_mod_2; walk_at "tq"
    exact h

theorem len_of_pair_mod {ds : List D} {R : D → Prop} (h : S_pair_mod ds R) : ds.length = 3 := by
  unfold S_pair_mod at h
  first | exact h.elim | (split at h <;> first | rfl | exact h.elim)
/-! lcm -/
def S_lcm : FS := fun ds R => match ds with
  | [.int a, .int b] => 0 < a ∧ 0 < b ∧ Sz 4000 a ∧ Sz 4000 b ∧ R (.int (Nat.lcm a.toNat b.toNat : Nat))
  | _ => False
def rd_lcm_0 : TSt := (sRt (tBin oMul (tBin oDiv (tVr 0) (tCl S_common (aCons (tVr 0) (aCons (tVr 1) aNil)))) (tVr 1)))
theorem sem_lcm (ds : List D) (R : D → Prop) (h : S_lcm ds R) : rd_lcm_0 ⟨fun _ => R .non, fun x _ => R x, fun _ => False, fun _ => False⟩ (stE ["one", "other"] ds) := by
  unfold S_lcm at h
  split at h <;> first | exact h.elim | skip
  rename_i a b
  obtain ⟨a0, b0, sx, sy, h⟩ := h
  obtain ⟨x, rfl⟩ : ∃ x : Nat, a = x := ⟨a.toNat, by omega⟩
  obtain ⟨y, rfl⟩ : ∃ y : Nat, b = y := ⟨b.toNat, by omega⟩
  rw [Int.toNat_natCast, Int.toNat_natCast] at h
  unfold rd_lcm_0; walk_at "tq"
  simp only [S_common]; walk_at "tq"
  have g0 : 0 < Int.gcd x y := by rw [Int.gcd_natCast_natCast]; exact Nat.gcd_pos_of_pos_left _ (by omega)
  have g1 : Int.gcd x y ≤ x := by rw [Int.gcd_natCast_natCast]; exact Nat.gcd_le_left _ (by omega)
  have sg : Sz 4000 ((Int.gcd x y : Nat) : Int) := Nat.lt_of_le_of_lt (by omega) sx
  have sd : Sz 4000 ((x : Int) / (Int.gcd x y : Nat)) := by
    have := Nat.div_le_self x (Int.gcd x y)
    rw [← Int.natCast_ediv]
    exact Nat.lt_of_le_of_lt (by rw [Int.natAbs_natCast, Int.natAbs_natCast]; exact this) sx
  refine ⟨cdwS (by omega) sg, .sz sd sy, ?_⟩
  have e : (x : Int) / (Int.gcd x y : Nat) * y = (Nat.lcm x y : Nat) := by
    rw [← Int.natCast_ediv, ← Int.natCast_mul, Int.gcd_natCast_natCast]
    congr 1
    obtain ⟨c, hc⟩ := Nat.gcd_dvd_left x y
    have gp := Nat.gcd_pos_of_pos_left y (show 0 < x by omega)
    unfold Nat.lcm
    generalize Nat.gcd x y = g at *
    subst hc
    rw [Nat.mul_div_cancel_left _ gp, Nat.mul_assoc, Nat.mul_div_cancel_left _ gp]
  rw [e]
  exact h

theorem len_of_lcm {ds : List D} {R : D → Prop} (h : S_lcm ds R) : ds.length = 2 := by
  unfold S_lcm at h
  first | exact h.elim | (split at h <;> first | rfl | exact h.elim)
/-! primes_of -/
def facD (L : List (Nat × Nat)) : List D := L.map fun x => .tup [.int (x.1 : Nat), .int (x.2 : Nat)]
def S_primes_of : FS := fun ds R => match ds with
  | [.int n] => 1 ≤ n ∧ n < 2 ^ 64 ∧ ∀ L, TM.IsFac n.toNat L → R (.tup (facD L))
  | _ => False
def rd_primes_of_1w_1w_0 : TSt := (sPr 2 4 (aCons (tBin oDiv (tVr 2) (tVr 3)) (aCons (tBin oAdd (tVr 4) (tKc (.int 1))) aNil)))
def rd_primes_of_1w_2a_0 : TSt := (sAp 1 (tTu (aCons (tVr 3) (aCons (tVr 4) aNil))))
def rd_primes_of_1w_3 : TSt := (sAs 3 (tBin oAdd (tVr 3) (tIfE (tTs (tBin oEq (tVr 3) (tKc (.int 2)))) (tKc (.int 1)) (tKc (.int 2)))))
def rd_primes_of_1w_2 : TSt := sSq (sIf (tTs (tBin oGt (tVr 4) (tKc (.int 0)))) rd_primes_of_1w_2a_0 sNx) rd_primes_of_1w_3
def rd_primes_of_1w_1 : TSt := sSq (tWh (tTs (tBin oEq (tBin oMod (tVr 2) (tVr 3)) (tKc (.int 0)))) rd_primes_of_1w_1w_0) rd_primes_of_1w_2
def rd_primes_of_1w_0 : TSt := sSq (sAs 4 (tKc (.int 0))) rd_primes_of_1w_1
def rd_primes_of_2 : TSt := (sRt (tBl oTuple (aCons (tCat (tVr 1) (tIfE (tTs (tBin oGt (tVr 2) (tKc (.int 1)))) (tLi (aCons (tTu (aCons (tVr 2) (aCons (tKc (.int 1)) aNil))) aNil)) (tLi aNil))) aNil)))
def rd_primes_of_1 : TSt := sSq (tWh (tTs (tBin oLe (tBin oMul (tVr 3) (tVr 3)) (tVr 2))) rd_primes_of_1w_0) rd_primes_of_2
def rd_primes_of_0 : TSt := sSq (sPrO3 1 2 3 (tLi aNil) (aCons (tVr 0) (aCons (tKc (.int 2)) aNil))) rd_primes_of_1
theorem sem_primes_of (ds : List D) (R : D → Prop) (h : S_primes_of ds R) : rd_primes_of_0 ⟨fun _ => R .non, fun x _ => R x, fun _ => False, fun _ => False⟩ (stE ["number", "found", "left", "prime", "often"] ds) := by
  unfold S_primes_of at h
  split at h <;> first | exact h.elim | skip
  rename_i n
  obtain ⟨n1, n2, h⟩ := h
  unfold rd_primes_of_0; walk_at "tq"
  unfold rd_primes_of_1; walk_at "tq"
  refine ⟨fun m E => ∃ (L : List (Nat × Nat)) (left k : Nat) (c : Sl), m = left - k ∧ E = [.d (.int n), .o (.lst (facD L)), .d (.int left), .d (.int k), c] ∧ TM.FacS n.toNat L left k ∧ (k = 2 ∨ k ≤ n.toNat), ⟨_, [], n.toNat, 2, .no, rfl, ?_, TM.FacS.start (by omega), .inl rfl⟩, ?_⟩
  · rw [Int.toNat_of_nonneg (by omega)]; rfl
  rintro m E ⟨L, left, k, c, rfl, rfl, f, kn⟩
  have kb := f.kb
  have ll : left ≤ n.toNat := Nat.le_of_dvd (by omega) ⟨TM.prodF L, by rw [← f.prod, Nat.mul_comm]⟩
  walk_at "tq"
  refine ⟨?_, fun hk => ?_, fun hk => ?_⟩
  · exact .l ⟨by omega, by omega⟩
  · have hk' : k * k ≤ left := by exact_mod_cast hk
    unfold rd_primes_of_1w_0 rd_primes_of_1w_1; walk_at "tq"
    refine ⟨fun m E => ∃ (l2 e : Nat), m = l2 ∧ E = [.d (.int n), .o (.lst (facD L)), .d (.int l2), .d (.int k), .d (.int e)] ∧ l2 * k ^ e = left, ⟨_, left, 0, rfl, rfl, by simp⟩, ?_⟩
    rintro m E ⟨l2, e, rfl, rfl, g⟩
    walk_at "tq"
    have l20 : 0 < m := Nat.pos_of_ne_zero fun z => by have := f.lpos; rw [z, Nat.zero_mul] at g; omega
    have k64 : (k : Int) < 2 ^ 64 := by
      have := Nat.le_mul_of_pos_left k (show 0 < k by omega)
      omega
    refine ⟨by omega, fun hd => ?_, fun hd => ?_⟩
    · unfold rd_primes_of_1w_1w_0; walk_at "tq"
      have hd' : m % k = 0 := by omega
      refine ⟨cdw (by omega) k64, m / k, Nat.div_lt_self l20 (by omega), m / k, e + 1, rfl, by simp, ?_⟩
      rw [Nat.pow_succ, ← g, Nat.mul_comm (k ^ e), ← Nat.mul_assoc, Nat.div_mul_cancel (Nat.dvd_of_mod_eq_zero hd')]
    · have hd' : ¬ k ∣ m := fun z => hd (by have := Nat.mod_eq_zero_of_dvd z; omega)
      have f2 : TM.FacS n.toNat L (m * k ^ e) k := by rw [g]; exact f
      have st := f2.step hd'
      have hL := TM.prodF_len f.pr
      have hp : TM.prodF L ≤ n.toNat := Nat.le_of_dvd (by omega) ⟨left, f.prod.symm⟩
      have len : L.length < 1000000 := by
        apply Nat.lt_of_not_le
        intro z
        have : 2 ^ 64 ≤ 2 ^ L.length := Nat.pow_le_pow_right (by decide) (by omega)
        omega
      have ml : m ≤ left := by rw [← g]; exact Nat.le_mul_of_pos_right _ (Nat.pow_pos (by omega))
      have kl : k < left := by
        have := Nat.mul_le_mul (show 2 ≤ k by omega) (Nat.le_refl k)
        omega
      have kk : k = 2 ∨ k + 2 ≤ left := by
        by_cases k2 : k = 2
        · exact .inl k2
        · have := Nat.mul_le_mul (show 3 ≤ k by omega) (Nat.le_refl k)
          omega
      unfold rd_primes_of_1w_2 rd_primes_of_1w_2a_0 rd_primes_of_1w_3; walk_at "tq"
      refine ⟨fun he => ?_, fun he => ?_⟩
      · have he' : 0 < e := by omega
        rw [if_pos he'] at st
        refine ⟨by simpa [facD] using len, fun k2 => ?_, fun k2 => ?_⟩
        · rw [if_pos (by omega)] at st
          exact ⟨_, by omega, L ++ [(k, e)], m, k + 1, .d (.int e), rfl, by simp [facD], st, by omega⟩
        · rw [if_neg (by omega)] at st
          exact ⟨_, by omega, L ++ [(k, e)], m, k + 2, .d (.int e), rfl, by simp [facD], st, by omega⟩
      · have he' : ¬ 0 < e := by omega
        rw [if_neg he'] at st
        refine ⟨fun k2 => ?_, fun k2 => ?_⟩
        · rw [if_pos (by omega)] at st
          exact ⟨_, by omega, L, m, k + 1, .d (.int e), rfl, by simp, st, by omega⟩
        · rw [if_neg (by omega)] at st
          exact ⟨_, by omega, L, m, k + 2, .d (.int e), rfl, by simp, st, by omega⟩
  · have hk' : left < k * k := by
      apply Nat.lt_of_not_le
      intro z
      exact hk (by exact_mod_cast z)
    have fin := f.done hk'
    unfold rd_primes_of_2; walk_at "tq"
    have hL := TM.prodF_len f.pr
    have hp : TM.prodF L ≤ n.toNat := Nat.le_of_dvd (by omega) ⟨left, f.prod.symm⟩
    have len : L.length < 1000 := by
      apply Nat.lt_of_not_le
      intro z
      have : 2 ^ 64 ≤ 2 ^ L.length := Nat.pow_le_pow_right (by decide) (by omega)
      omega
    refine ⟨fun l => ?_, fun l => ?_⟩
    · rw [if_pos (by omega)] at fin
      refine ⟨by simp [facD]; omega, ?_⟩
      have := h _ fin
      simpa [facD] using this
    · rw [if_neg (by omega)] at fin
      refine ⟨by simp [facD]; omega, ?_⟩
      rw [List.append_nil]
      exact h _ fin

theorem len_of_primes_of {ds : List D} {R : D → Prop} (h : S_primes_of ds R) : ds.length = 1 := by
  unfold S_primes_of at h
  first | exact h.elim | (split at h <;> first | rfl | exact h.elim)
/-! jacobi_in -/
def S_jacobi_in : FS := fun ds R => match ds with
  | [.int a, .int l] => 0 < l ∧ l < 2 ^ 64 ∧ R (.int (TM.jac a l.toNat))
  | _ => False
def rd_jacobi_in_1w_0w_1 : TSt := (sAs 4 (tIfE (tTs (tBin (oIn false) (tBin oMod (tVr 3) (tKc (.int 8))) (tTu (aCons (tKc (.int 3)) (aCons (tKc (.int 5)) aNil))))) (tUnr oNeg (tVr 4)) (tVr 4)))
def rd_jacobi_in_1w_0w_0 : TSt := sSq (sAs 2 (tBin oDiv (tVr 2) (tKc (.int 2)))) rd_jacobi_in_1w_0w_1
def rd_jacobi_in_1w_3 : TSt := (sAs 2 (tBin oMod (tVr 2) (tVr 3)))
def rd_jacobi_in_1w_2 : TSt := sSq (sAs 4 (tIfE (tAn (tTs (tBin oEq (tBin oMod (tVr 2) (tKc (.int 4))) (tKc (.int 3)))) (tTs (tBin oEq (tBin oMod (tVr 3) (tKc (.int 4))) (tKc (.int 3))))) (tUnr oNeg (tVr 4)) (tVr 4))) rd_jacobi_in_1w_3
def rd_jacobi_in_1w_1 : TSt := sSq (sPr 2 3 (aCons (tVr 3) (aCons (tVr 2) aNil))) rd_jacobi_in_1w_2
def rd_jacobi_in_1w_0 : TSt := sSq (tWh (tTs (tBin oEq (tBin oMod (tVr 2) (tKc (.int 2))) (tKc (.int 0)))) rd_jacobi_in_1w_0w_0) rd_jacobi_in_1w_1
def rd_jacobi_in_2 : TSt := (sRt (tIfE (tTs (tBin oEq (tVr 3) (tKc (.int 1)))) (tVr 4) (tKc (.int 0))))
def rd_jacobi_in_1 : TSt := sSq (tWh (tTs (tBin oNe (tVr 2) (tKc (.int 0)))) rd_jacobi_in_1w_0) rd_jacobi_in_2
def rd_jacobi_in_0 : TSt := sSq (sPr3 2 3 4 (aCons (tBin oMod (tVr 0) (tVr 1)) (aCons (tVr 1) (aCons (tKc (.int 1)) aNil)))) rd_jacobi_in_1
theorem sem_jacobi_in (ds : List D) (R : D → Prop) (h : S_jacobi_in ds R) : rd_jacobi_in_0 ⟨fun _ => R .non, fun x _ => R x, fun _ => False, fun _ => False⟩ (stE ["one", "odd", "near", "far", "sign"] ds) := by
  unfold S_jacobi_in at h
  split at h <;> first | exact h.elim | skip
  rename_i a l
  obtain ⟨l1, l2, h⟩ := h
  obtain ⟨l, rfl⟩ : ∃ x : Nat, l = x := ⟨l.toNat, by omega⟩
  rw [Int.toNat_natCast, TM.jac_N a (by omega)] at h
  unfold rd_jacobi_in_0; walk_at "tq"
  refine ⟨l1, ?_⟩
  unfold rd_jacobi_in_1; walk_at "tq"
  generalize hJ : TM.jacN (a % l).toNat l 1 = J at h
  refine ⟨fun m E => ∃ (near far : Nat) (s : Int), m = near ∧ 0 < far ∧ E = [.d (.int a), .d (.int l), .d (.int near), .d (.int far), .d (.int s)] ∧ TM.jacN near far s = J, ⟨_, (a % l).toNat, l, 1, rfl, by omega, ?_, hJ⟩, ?_⟩
  · rw [Int.toNat_of_nonneg (Int.emod_nonneg _ (by omega))]
  rintro m E ⟨near, far, s, rfl, f0, rfl, hJ⟩
  walk_at "tq"
  refine ⟨fun hn => ?_, fun hn => ?_⟩
  · have hn' : 0 < m := by omega
    unfold rd_jacobi_in_1w_0; walk_at "tq"
    refine ⟨fun m2 E => ∃ (n2 : Nat) (s : Int), m2 = n2 ∧ n2 ≤ m ∧ 0 < n2 ∧ E = [.d (.int a), .d (.int l), .d (.int n2), .d (.int far), .d (.int s)] ∧ TM.jacN n2 far s = J, ⟨_, m, s, rfl, Nat.le_refl _, hn', rfl, hJ⟩, ?_⟩
    rintro m2 E ⟨n2, s, rfl, le, n20, rfl, hJ⟩
    walk_at "tq"
    refine ⟨by decide, fun he => ?_, fun he => ?_⟩
    · have he' : m2 % 2 = 0 := by omega
      rw [TM.jacN_e (by omega) he'] at hJ
      unfold rd_jacobi_in_1w_0w_0; walk_at "tq"
      refine ⟨cdw (by decide) (by decide), ?_⟩
      unfold rd_jacobi_in_1w_0w_1; walk_at "tq"
      have e8 : ([3, 5] : List Int).contains ((far : Int) % 8) = true ↔ (far % 8 = 3 ∨ far % 8 = 5) := by simp; omega
      refine ⟨by decide, ?_⟩
      refine ⟨fun z => ?_, fun z => ?_⟩
      · rw [if_pos (e8.mp (by simpa using z))] at hJ
        exact ⟨m2 / 2, by omega, m2 / 2, -s, rfl, by omega, by omega, by simp, hJ⟩
      · rw [if_neg (fun y => by rw [← e8] at y; simp at z y; omega)] at hJ
        exact ⟨m2 / 2, by omega, m2 / 2, s, rfl, by omega, by omega, by simp, hJ⟩
    · have he' : m2 % 2 = 1 := by omega
      rw [TM.jacN_o he'] at hJ
      unfold rd_jacobi_in_1w_1; walk_at "tq"
      unfold rd_jacobi_in_1w_2; walk_at "tq"
      unfold rd_jacobi_in_1w_3; walk_at "tq"
      have lt := Nat.mod_lt far n20
      refine ⟨by decide, fun z => ⟨by decide, fun y => ?_, fun y => ?_⟩, fun z => ?_⟩
      · rw [if_pos (by omega)] at hJ
        exact ⟨by omega, far % m2, by omega, far % m2, m2, -s, rfl, n20, by simp, hJ⟩
      · rw [if_neg (by omega)] at hJ
        exact ⟨by omega, far % m2, by omega, far % m2, m2, s, rfl, n20, by simp, hJ⟩
      · rw [if_neg (by omega)] at hJ
        exact ⟨by omega, far % m2, by omega, far % m2, m2, s, rfl, n20, by simp, hJ⟩
  · have : m = 0 := by omega
    subst this
    rw [TM.jacN_0] at hJ
    unfold rd_jacobi_in_2; walk_at "tq"
    refine ⟨fun z => ?_, fun z => ?_⟩
    · rw [if_pos (by omega)] at hJ; rw [hJ]; exact h
    · rw [if_neg (by omega)] at hJ; rw [hJ]; exact h

theorem len_of_jacobi_in {ds : List D} {R : D → Prop} (h : S_jacobi_in ds R) : ds.length = 2 := by
  unfold S_jacobi_in at h
  first | exact h.elim | (split at h <;> first | rfl | exact h.elim)
/-! terms_in -/
def trW (p q : Int) (k : Str) (i : Nat) : Int := if k = ("u" : Str) then TM.U p q i else TM.V p q i
def trD (p q : Int) (k : Str) (n : Nat) : List D := (List.range n).map fun i => .int (trW p q k i)
def Wd (x : Int) : Prop := -(2 ^ 64) < x ∧ x < 2 ^ 64
def S_terms_in : FS := fun ds R => match ds with
  | [.tup [.int p, .int q], .str k, .int n] => Wd p ∧ Wd q ∧ 0 ≤ n ∧ n ≤ 100000 ∧ R (.lst (trD p q k n.toNat))
  | _ => False
def rd_terms_in_1w_0 : TSt := (sAp 3 (tBin oSub (tBin oMul (tSeen 0 (tKc (.int 0))) (tSeen 3 (tUnr oNeg (tKc (.int 1))))) (tBin oMul (tSeen 0 (tKc (.int 1))) (tSeen 3 (tUnr oNeg (tKc (.int 2)))))))
def rd_terms_in_2 : TSt := (sRt (tSlc (tVr 3) qNo (qSo (tVr 2))))
def rd_terms_in_1 : TSt := sSq (tWh (tTs (tBin oLt (tLenN 3) (tVr 2))) rd_terms_in_1w_0) rd_terms_in_2
def rd_terms_in_0 : TSt := sSq (sAo 3 (tIfE (tTs (tBin oEq (tVr 1) (tKc (.str "u")))) (tLi (aCons (tKc (.int 0)) (aCons (tKc (.int 1)) aNil))) (tLi (aCons (tKc (.int 2)) (aCons (tSeen 0 (tKc (.int 0))) aNil))))) rd_terms_in_1
theorem trW_ss (p q : Int) (k : Str) (i : Nat) : trW p q k (i + 2) = p * trW p q k (i + 1) - q * trW p q k i := by
  unfold trW
  split
  · rfl
  · rfl
theorem trD_two (p q : Int) (k : Str) (n : Nat) : trD p q k (n + 2) = trD p q k n ++ [.int (trW p q k n), .int (trW p q k (n + 1))] := by
  unfold trD
  rw [List.range_succ, List.range_succ, List.map_append, List.map_append, List.append_assoc]; rfl
theorem trD_s (p q : Int) (k : Str) (n : Nat) : trD p q k (n + 1) = trD p q k n ++ [.int (trW p q k n)] := by
  unfold trD
  rw [List.range_succ, List.map_append]; rfl
theorem trD_len (p q : Int) (k : Str) (n : Nat) : (trD p q k n).length = n := by simp [trD]
theorem trD_take (p q : Int) (k : Str) {n m : Nat} (h : n ≤ m) : (trD p q k m).take n = trD p q k n := by
  unfold trD
  rw [← List.map_take, List.take_range, Nat.min_eq_left h]
theorem cutD_to (xs : List D) {n : Int} (h : 0 ≤ n) : cutD xs none (some n) = xs.take n.toNat := by
  unfold cutD
  show ((xs.drop 0).take ((if n < 0 then _ else _) - 0)) = _
  rw [if_neg (by omega), List.drop_zero, Nat.sub_zero]
  rw [← List.take_take, List.take_length]
theorem sem_terms_in (ds : List D) (R : D → Prop) (h : S_terms_in ds R) : rd_terms_in_0 ⟨fun _ => R .non, fun x _ => R x, fun _ => False, fun _ => False⟩ (stE ["rule", "kind", "many", "found"] ds) := by
  unfold S_terms_in at h
  split at h <;> first | exact h.elim | skip
  rename_i p q k n
  obtain ⟨wp, wq, n0, n1, h⟩ := h
  have key : rd_terms_in_1 ⟨fun _ => R .non, fun x _ => R x, fun _ => False, fun _ => False⟩ [.d (.tup [.int p, .int q]), .d (.str k), .d (.int n), .o (.lst (trD p q k 2))] := by
    unfold rd_terms_in_1; walk_at "tq"
    refine ⟨fun m E => ∃ i : Nat, m = n.toNat - i ∧ (i + 2 ≤ n.toNat ∨ i = 0) ∧ E = [.d (.tup [.int p, .int q]), .d (.str k), .d (.int n), .o (.lst (trD p q k (i + 2)))], ⟨_, 0, rfl, .inr rfl, rfl⟩, ?_⟩
    rintro m E ⟨i, rfl, hi, rfl⟩
    walk_at "tq"
    rw [trD_len]
    refine ⟨fun l => ?_, fun l => ?_⟩
    · unfold rd_terms_in_1w_0; walk_at "tq"
      rw [trD_two]; walk_at "tq"
      refine ⟨.l wp, .l wq, by rw [List.length_append, trD_len]; simp; omega, n.toNat - (i + 1), by omega, i + 1, rfl, .inl (by omega), ?_⟩
      rw [trD_s p q k (i + 2), trD_two, ← trW_ss]
    · unfold rd_terms_in_2; walk_at "tq"
      rw [cutD_to _ n0, trD_take p q k (by omega)]
      exact h
  unfold rd_terms_in_0; walk_at "tq"
  refine ⟨fun e => ?_, fun e => ?_⟩
  · have e2 : trD p q k 2 = [.int 0, .int 1] := by
      have ek : k = ("u" : Str) := by simpa using e
      subst ek
      simp [trD, trW, List.range_succ, TM.U]
    rw [e2] at key
    exact key
  · have e2 : trD p q k 2 = [.int 2, .int p] := by
      have ek : k ≠ ("u" : Str) := by simpa using e
      simp [trD, trW, List.range_succ, TM.V, ek]
    rw [e2] at key
    exact key

theorem len_of_terms_in {ds : List D} {R : D → Prop} (h : S_terms_in ds R) : ds.length = 3 := by
  unfold S_terms_in at h
  first | exact h.elim | (split at h <;> first | rfl | exact h.elim)
/-! zero_in -/
def zeroU (p q : Int) : Option Nat := ((List.range 7).filter fun i => decide (0 < i ∧ TM.U p q i = 0)).head?
def zD : Option Nat → D
  | none => .non
  | some k => .int (k : Nat)
def S_zero_in : FS := fun ds R => match ds with
  | [.tup [.int p, .int q]] => Wd p ∧ Wd q ∧ R (zD (zeroU p q))
  | _ => False
def rd_zero_in_1 : TSt := (sRt (tIfE (tTs (tBin oNeD (tVr 1) (tLi aNil))) (tSeen 1 (tKc (.int 0))) (tKc .non)))
def rd_zero_in_0 : TSt := sSq (sAo 1 (tLcm (iEn (aCons (tCl S_terms_in (aCons (tVr 0) (aCons (tKc (.str "u")) (aCons (tKc (.int 7)) aNil)))) aNil)) (gTp 2 (gCn (gNm 2) (gCn (gNm 3) gNl))) (tAn (tTs (tBin oGt (tVr 2) (tKc (.int 0)))) (tTs (tBin oEq (tVr 3) (tKc (.int 0))))) (tVr 2) [2, 3])) rd_zero_in_1
theorem sem_zero_in (ds : List D) (R : D → Prop) (h : S_zero_in ds R) : rd_zero_in_0 ⟨fun _ => R .non, fun x _ => R x, fun _ => False, fun _ => False⟩ (stE ["rule", "found", "place", "own"] ds) := by
  unfold S_zero_in at h
  split at h <;> first | exact h.elim | skip
  rename_i p q
  obtain ⟨wp, wq, h⟩ := h
  unfold rd_zero_in_0; walk_at "tq"
  simp only [S_terms_in]; walk_at "tq"
  refine ⟨wp, wq, by decide, by decide, by simp [enD, trD_len], ?_⟩
  refine lc_inv (fun i acc E => E = [.d (.tup [.int p, .int q]), .no, .no, .no] ∧ acc = ((List.range i).filter fun i => decide (0 < i ∧ TM.U p q i = 0)).map fun i => .int (i : Nat)) ⟨rfl, by simp⟩ ?_ ?_
  · rintro i x acc E KK hx ⟨rfl, rfl⟩ hK
    obtain ⟨y, hy, rfl⟩ := enD_get hx
    unfold trD at hy
    rw [List.getElem?_map] at hy
    cases e : (List.range (7 : Int).toNat)[i]? with
    | none => rw [e] at hy; cases hy
    | some j =>
      rw [e] at hy
      cases hy
      have : j = i := by
        have := List.getElem?_range (n := (7 : Int).toNat) (i := i) (by
          have := List.getElem?_eq_some_iff.mp e
          obtain ⟨l, _⟩ := this
          rwa [List.length_range] at l)
        rw [this] at e
        exact (Option.some.inj e).symm
      subst this
      have eU : trW p q ("u" : Str) j = TM.U p q j := by simp [trW]
      simp only [eU]
      walk_at "tq"
      refine ⟨fun a => ⟨fun b => ?_, fun b => ?_⟩, fun a => ?_⟩
      · refine hK _ _ ⟨rfl, ?_⟩
        rw [List.range_succ, List.filter_append, List.map_append]
        have : 0 < j ∧ TM.U p q j = 0 := by omega
        simp [List.filter_cons, this]
      · refine hK _ _ ⟨rfl, ?_⟩
        rw [List.range_succ, List.filter_append, List.map_append]
        have : ¬ (0 < j ∧ TM.U p q j = 0) := by omega
        rw [List.filter_cons, if_neg (by simpa using this)]
        simp
      · refine hK _ _ ⟨rfl, ?_⟩
        rw [List.range_succ, List.filter_append, List.map_append]
        have : ¬ (0 < j ∧ TM.U p q j = 0) := by omega
        rw [List.filter_cons, if_neg (by simpa using this)]
        simp
  · rintro acc E ⟨rfl, rfl⟩
    have el : (enD (trD p q ("u" : Str) (7 : Int).toNat)).length = 7 := by simp [enD, trD_len]
    rw [el]
    unfold zeroU at h
    generalize (List.range 7).filter (fun i => decide (0 < i ∧ TM.U p q i = 0)) = L at h
    unfold rd_zero_in_1; walk_at "tq"
    have e1 : (L.map fun i => D.int (i : Nat)) = (L.map fun i => ((i : Nat) : Int)).map D.int := by rw [List.map_map]; rfl
    have p1 : plainN 1 (.lst (L.map fun i => D.int (i : Nat))) := by rw [e1]; exact plain_ints.1
    have p2 : plainN 1 (.lst []) := fun d hd => nomatch hd
    refine ⟨okP_plain p1, okP_plain p2, ?_⟩
    have ev := eqvD_plain p1 p2
    cases L with
    | nil =>
      have : eqvD (.lst (List.map (fun i => D.int (i : Nat)) [])) (.lst []) = true := ev.mpr rfl
      rw [this]
      exact ⟨fun z => (nomatch z), fun _ => h⟩
    | cons i L =>
      have : eqvD (.lst (List.map (fun i => D.int (i : Nat)) (i :: L))) (.lst []) = false := by
        rw [← Bool.not_eq_true, ev]; simp
      rw [this]
      walk_at "tq"
      exact h

theorem len_of_zero_in {ds : List D} {R : D → Prop} (h : S_zero_in ds R) : ds.length = 1 := by
  unfold S_zero_in at h
  first | exact h.elim | (split at h <;> first | rfl | exact h.elim)
/-! term -/
def S_term : FS := fun ds R => match ds with
  | [.tup [.int p, .int q], .int n] => RuleOk p q ∧ 0 ≤ n ∧ n ≤ 3000 ∧ R (.int (TM.U p q n.toNat))
  | _ => False
def rd_term_1 : TSt := (sRt (tBin oIx (tCl S_terms_in (aCons (tVr 2) (aCons (tKc (.str "u")) (aCons (tBin oAdd (tCl S_sure_within (aCons (tVr 1) (aCons (tKc (.int 0)) (aCons (tKc (.int 3000)) aNil)))) (tKc (.int 1))) aNil)))) (tUnr oNeg (tKc (.int 1)))))
def rd_term_0 : TSt := sSq (sAs 2 (tCl S_sure_rule (aCons (tVr 0) aNil))) rd_term_1
theorem sem_term (ds : List D) (R : D → Prop) (h : S_term ds R) : rd_term_0 ⟨fun _ => R .non, fun x _ => R x, fun _ => False, fun _ => False⟩ (stE ["rule", "number", "own"] ds) := by
  unfold S_term at h
  split at h <;> first | exact h.elim | skip
  rename_i p q n
  obtain ⟨ro, n0, n1, h⟩ := h
  unfold rd_term_0; walk_at "tq"
  simp only [S_sure_rule]
  refine ⟨ro, ?_⟩
  unfold rd_term_1; walk_at "tq"
  simp only [S_sure_within, S_terms_in, rl]; walk_at "tq"
  unfold RuleOk at ro
  refine ⟨n0, n1, ⟨by omega, by omega⟩, ⟨by omega, by omega⟩, by omega, by omega, ?_⟩
  rw [show (n + 1).toNat = n.toNat + 1 by omega, trD_s]; walk_at "tq"
  have eU : trW p q ("u" : Str) n.toNat = TM.U p q n.toNat := by simp [trW]
  rw [eU]
  exact h

theorem len_of_term {ds : List D} {R : D → Prop} (h : S_term ds R) : ds.length = 2 := by
  unfold S_term at h
  first | exact h.elim | (split at h <;> first | rfl | exact h.elim)
/-! bound_in -/
def bdZ (p q : Int) (l : Nat) : Int := if l = 2 then (if p % 2 = 0 then 2 else 3) else (l : Int) - TM.jac (TM.disc p q) l
def S_bound_in : FS := fun ds R => match ds with
  | [.tup [.int p, .int q], .int l] => RuleOk p q ∧ 0 < l ∧ l < 2 ^ 32 ∧ R (.int (bdZ p q l.toNat))
  | _ => False
def rd_bound_in_0a_0 : TSt := (sRt (tIfE (tTs (tBin oEq (tBin oMod (tSeen 0 (tKc (.int 0))) (tKc (.int 2))) (tKc (.int 0)))) (tKc (.int 2)) (tKc (.int 3))))
def rd_bound_in_2 : TSt := (sRt (tIfE (tTs (tBin oEq (tVr 2) (tKc (.int 0)))) (tVr 1) (tBin oSub (tVr 1) (tVr 2))))
def rd_bound_in_1 : TSt := sSq (sAs 2 (tCl S_jacobi_in (aCons (tCl S_big_d (aCons (tVr 0) aNil)) (aCons (tVr 1) aNil)))) rd_bound_in_2
def rd_bound_in_0 : TSt := sSq (sIf (tTs (tBin oEq (tVr 1) (tKc (.int 2)))) rd_bound_in_0a_0 sNx) rd_bound_in_1
theorem sem_bound_in (ds : List D) (R : D → Prop) (h : S_bound_in ds R) : rd_bound_in_0 ⟨fun _ => R .non, fun x _ => R x, fun _ => False, fun _ => False⟩ (stE ["rule", "prime", "sign"] ds) := by
  unfold S_bound_in at h
  split at h <;> first | exact h.elim | skip
  rename_i p q l
  obtain ⟨ro, l0, l1, h⟩ := h
  unfold RuleOk at ro
  unfold bdZ at h
  unfold rd_bound_in_0 rd_bound_in_0a_0; walk_at "tq"
  refine ⟨fun e => ?_, fun e => ?_⟩
  · rw [if_pos (by omega)] at h
    refine ⟨by decide, fun z => ?_, fun z => ?_⟩
    · rw [if_pos z] at h; exact h
    · rw [if_neg z] at h; exact h
  · rw [if_neg (by omega), Int.toNat_of_nonneg (by omega)] at h
    unfold rd_bound_in_1; walk_at "tq"
    simp only [S_big_d, S_jacobi_in]
    refine ⟨?_, l0, by omega, ?_⟩
    · omega
    unfold rd_bound_in_2; walk_at "tq"
    refine ⟨fun z => ?_, fun z => ?_⟩
    · rw [z, Int.sub_zero] at h; exact h
    · exact h

theorem len_of_bound_in {ds : List D} {R : D → Prop} (h : S_bound_in ds R) : ds.length = 2 := by
  unfold S_bound_in at h
  first | exact h.elim | (split at h <;> first | rfl | exact h.elim)
/-! least_part -/
def S_least_part : FS := fun ds R => match ds with
  | [.tup [.int p, .int q], .int m, .int b] => RuleOk p q ∧ 0 < m ∧ m < 2 ^ 64 ∧ 0 < b ∧ b < 2 ^ 64 ∧ TM.Cop m.toNat q ∧ TM.Dv p q m.toNat b.toNat ∧ ∀ r : Nat, TM.IsRk p q m.toNat r → R (.int r)
  | _ => False
def rd_least_part_1f_0w_0 : TSt := (sAs 3 (tBin oDiv (tVr 3) (tVr 4)))
def rd_least_part_1f_0 : TSt := (tWh (tAn (tTs (tBin oEq (tBin oMod (tVr 3) (tVr 4)) (tKc (.int 0)))) (tTs (tBin oEq (tBin oIx (tCl S_pair_mod (aCons (tVr 0) (aCons (tBin oDiv (tVr 3) (tVr 4)) (aCons (tVr 1) aNil)))) (tKc (.int 0))) (tKc (.int 0))))) rd_least_part_1f_0w_0)
def rd_least_part_2 : TSt := (sRt (tVr 3))
def rd_least_part_1 : TSt := sSq (tFo (iTp (tCl S_primes_of (aCons (tVr 2) aNil))) (gTp 2 (gCn (gNm 4) (gCn (gNm 5) gNl))) rd_least_part_1f_0) rd_least_part_2
def rd_least_part_0 : TSt := sSq (sAs 3 (tVr 2)) rd_least_part_1
theorem ur_dv {p q m : Int} {n : Nat} (h : 0 < m) : urest p q n m = 0 ↔ TM.Dv p q m.toNat n := by
  unfold urest TM.Dv
  rw [Int.toNat_of_nonneg (by omega)]
  exact ⟨Int.dvd_of_emod_eq_zero, Int.emod_eq_zero_of_dvd⟩
theorem pmOk_of {p q n m : Int} (ro : RuleOk p q) (n0 : 0 ≤ n) (n1 : n < 2 ^ 64) (m0 : 0 < m) (m1 : m < 2 ^ 64) : PmOk p q n m := by
  unfold RuleOk at ro
  refine ⟨by omega, by omega, by omega, by omega, n0, Int.lt_of_lt_of_le n1 (by decide), m0, Int.lt_of_lt_of_le m1 ?_⟩
  rw [show (400000 : Nat) = 64 + 399936 by decide, Int.pow_add]
  have h1 : (0 : Int) < 2 ^ 399936 := Int.pow_pos (by decide)
  generalize (2 : Int) ^ 399936 = Z at h1 ⊢
  omega
theorem sem_least_part (ds : List D) (R : D → Prop) (h : S_least_part ds R) : rd_least_part_0 ⟨fun _ => R .non, fun x _ => R x, fun _ => False, fun _ => False⟩ (stE ["rule", "modulus", "bound", "found", "prime", "often"] ds) := by
  unfold S_least_part at h
  split at h <;> first | exact h.elim | skip
  rename_i p q m b
  obtain ⟨ro, m0, m1, b0, b1, co, dv, h⟩ := h
  unfold rd_least_part_0; walk_at "tq"
  unfold rd_least_part_1; walk_at "tq"
  simp only [S_primes_of]; walk_at "tq"
  refine ⟨by omega, b1, fun L hL => ?_⟩
  refine for_inv (fun i E => ∃ (f : Nat) (c d : Sl), E = [.d (.tup [.int p, .int q]), .d (.int m), .d (.int b), .d (.int f), c, d] ∧ 0 < f ∧ f ∣ b.toNat ∧ TM.Dv p q m.toNat f ∧ ∀ x ∈ L.take i, x.1 ∣ f → ¬ TM.Dv p q m.toNat (f / x.1)) ⟨b.toNat, .no, .no, ?_, by omega, Nat.dvd_refl _, dv, by simp⟩ ?_ ?_
  · rw [Int.toNat_of_nonneg (by omega)]
  · rintro i x E KK hx ⟨f, c, d, rfl, f0, fb, fd, hf⟩ hK
    unfold facD at hx
    rw [List.getElem?_map] at hx
    cases e : L[i]? with
    | none => rw [e] at hx; cases hx
    | some y =>
      rw [e] at hx
      cases hx
      have ym := List.mem_of_getElem? e
      have yp := (hL.pr y ym).1
      have y2 := yp.two_le
      have ydb : y.1 ∣ b.toNat := by
        have h1 := hL.mem_dvd (l := y.1) (e := y.2) ym
        have h2 := Nat.pow_dvd_pow y.1 (hL.pr y ym).2
        rw [Nat.pow_one] at h2
        exact Nat.dvd_trans h2 h1
      have yb := Nat.le_of_dvd (by omega) ydb
      simp only []
      walk_at "tq"
      unfold rd_least_part_1f_0; walk_at "tq"
      refine ⟨fun n E => ∃ (f : Nat), n = f ∧ E = [.d (.tup [.int p, .int q]), .d (.int m), .d (.int b), .d (.int f), .d (.int (y.1 : Nat)), .d (.int (y.2 : Nat))] ∧ 0 < f ∧ f ∣ b.toNat ∧ TM.Dv p q m.toNat f ∧ ∀ x ∈ L.take i, x.1 ∣ f → ¬ TM.Dv p q m.toNat (f / x.1), ⟨_, f, rfl, rfl, f0, fb, fd, hf⟩, ?_⟩
      rintro n E ⟨f, rfl, rfl, f0, fb, fd, hf⟩
      have nb := Nat.le_of_dvd (by omega) fb
      walk_at "tq"
      simp only [S_pair_mod]
      have fin : ¬ (y.1 ∣ n ∧ TM.Dv p q m.toNat (n / y.1)) → KK [.d (.tup [.int p, .int q]), .d (.int m), .d (.int b), .d (.int n), .d (.int (y.1 : Nat)), .d (.int (y.2 : Nat))] := fun z => by
        refine hK _ ⟨n, _, _, rfl, f0, fb, fd, fun x hx hxd hdv => ?_⟩
        rw [List.take_succ, e] at hx
        rcases List.mem_append.mp hx with w | w
        · exact hf x w hxd hdv
        · simp at w
          subst w
          exact z ⟨hxd, hdv⟩
      have eN : ((n : Int) / (y.1 : Nat)).toNat = n / y.1 := by rw [← Int.natCast_ediv, Int.toNat_natCast]
      have eL : ((n : Int) / (y.1 : Nat)) = ((n / y.1 : Nat) : Int) := by rw [← Int.natCast_ediv]
      have dl : n / y.1 ≤ n := Nat.div_le_self _ _
      have c1 : CDivW (n : Int) ((y.1 : Nat) : Int) := cdw (by omega) (by omega)
      refine ⟨by omega, fun z1 => ⟨c1, pmOk_of ro (by omega) (by omega) m0 m1, ?_⟩, fun z1 => ?_⟩
      · walk_at "tq"
        rw [eN]
        have z1' : y.1 ∣ n := Nat.dvd_of_mod_eq_zero (by omega)
        refine ⟨fun z2 => ?_, fun z2 => ?_⟩
        · rw [ur_dv m0] at z2
          unfold rd_least_part_1f_0w_0; walk_at "tq"
          refine ⟨c1, n / y.1, Nat.div_lt_self f0 (by omega), n / y.1, rfl, by rw [eL], Nat.div_pos (Nat.le_of_dvd f0 z1') (by omega), Nat.dvd_trans (Nat.div_dvd_of_dvd z1') fb, z2, fun x hx hxd hdv => ?_⟩
          have xd : x.1 ∣ n := Nat.dvd_trans hxd (Nat.div_dvd_of_dvd z1')
          refine hf x hx xd (hdv.dvd ?_)
          obtain ⟨k, hk⟩ := hxd
          have xp := (hL.pr x (List.mem_of_mem_take hx)).1.pos
          have en : n = x.1 * (k * y.1) := by rw [← Nat.mul_assoc, ← hk, Nat.div_mul_cancel z1']
          rw [hk, Nat.mul_div_cancel_left _ xp]
          rw [show n / x.1 = k * y.1 by rw [en, Nat.mul_div_cancel_left _ xp]]
          exact ⟨y.1, rfl⟩
        · rw [ur_dv m0] at z2
          exact fin fun z => z2 z.2
      · refine fin fun z => z1 ?_
        have := Nat.mod_eq_zero_of_dvd z.1
        omega
  · rintro E ⟨f, c, d, rfl, f0, fb, fd, hf⟩
    unfold rd_least_part_2; walk_at "tq"
    refine h f (TM.IsRk.of_primes (by omega) co f0 fd fun x xp xd => ?_)
    obtain ⟨e, he⟩ := hL.dvd_mem xp (Nat.dvd_trans xd fb)
    refine hf (x, e) ?_ xd
    have el : (facD L).length = L.length := by simp [facD]
    rw [el, List.take_length]
    exact he

theorem len_of_least_part {ds : List D} {R : D → Prop} (h : S_least_part ds R) : ds.length = 3 := by
  unfold S_least_part at h
  first | exact h.elim | (split at h <;> first | rfl | exact h.elim)
/-! prime_place_in -/
def JOk (l : Nat) : Prop := l ≠ 2 → ∀ a : Int, TM.Sgn l a (TM.jac a l)
def PrOk (q : Int) (l : Nat) : Prop := TM.Pr l ∧ ¬ (l : Int) ∣ q ∧ l < 2 ^ 32 ∧ JOk l
def S_prime_place_in : FS := fun ds R => match ds with
  | [.tup [.int p, .int q], .int l] => RuleOk p q ∧ 0 ≤ l ∧ PrOk q l.toNat ∧ ∀ r : Nat, TM.IsRk p q l.toNat r → R (.int r)
  | _ => False
theorem bd_dv {p q : Int} {l : Nat} (h : PrOk q l) : 0 < bdZ p q l ∧ bdZ p q l ≤ l + 1 ∧ TM.Dv p q l (bdZ p q l).toNat := by
  obtain ⟨pl, hq, l32, jo⟩ := h
  have l2 := pl.two_le
  unfold bdZ
  by_cases e : l = 2
  · subst e
    rw [if_pos rfl]
    have := TM.Dv.bound2 (p := p) (q := q) hq
    split <;> rename_i z
    · rw [if_pos z] at this; exact ⟨by decide, by decide, this⟩
    · rw [if_neg z] at this; exact ⟨by decide, by decide, this⟩
  · rw [if_neg e]
    have s := jo e (TM.disc p q)
    have s1 := s.1
    have dv := TM.Dv.bound pl e hq s
    exact ⟨by omega, by omega, dv⟩
def rd_prime_place_in_0 : TSt := (sRt (tCl S_least_part (aCons (tVr 0) (aCons (tVr 1) (aCons (tCl S_bound_in (aCons (tVr 0) (aCons (tVr 1) aNil))) aNil)))))
theorem sem_prime_place_in (ds : List D) (R : D → Prop) (h : S_prime_place_in ds R) : rd_prime_place_in_0 ⟨fun _ => R .non, fun x _ => R x, fun _ => False, fun _ => False⟩ (stE ["rule", "prime"] ds) := by
  unfold S_prime_place_in at h
  split at h <;> first | exact h.elim | skip
  rename_i p q l
  obtain ⟨ro, l0, po, h⟩ := h
  obtain ⟨b0, b1, bd⟩ := bd_dv (p := p) po
  have l2 := po.1.two_le
  have l32 := po.2.2.1
  unfold rd_prime_place_in_0; walk_at "tq"
  simp only [S_bound_in, S_least_part]
  exact ⟨ro, by omega, by omega, ro, by omega, by omega, b0, by omega, TM.Cop.pr po.1 po.2.1, bd, h⟩

theorem len_of_prime_place_in {ds : List D} {R : D → Prop} (h : S_prime_place_in ds R) : ds.length = 2 := by
  unfold S_prime_place_in at h
  first | exact h.elim | (split at h <;> first | rfl | exact h.elim)
/-! ground_in -/
def S_ground_in : FS := fun ds R => match ds with
  | [.tup [.int p, .int q], .int l] => RuleOk p q ∧ 0 ≤ l ∧ PrOk q l.toNat ∧ ∀ r : Nat, TM.IsRk p q (TM.Grd l.toNat) r → R (.int r)
  | _ => False
theorem grd_dv {p q : Int} {l : Nat} (h : PrOk q l) : ∃ n, 0 < n ∧ n ≤ l + 4 ∧ TM.Dv p q (TM.Grd l) n := by
  obtain ⟨b0, b1, bd⟩ := bd_dv (p := p) h
  unfold TM.Grd
  by_cases e : l = 2
  · subst e
    rw [if_pos rfl]
    exact ⟨2 * (bdZ p q 2).toNat, by omega, by omega, TM.Dv.four bd⟩
  · rw [if_neg e]
    exact ⟨(bdZ p q l).toNat, by omega, by omega, bd⟩
theorem grd_le {p q : Int} {l g : Nat} (h : PrOk q l) (hg : TM.IsRk p q (TM.Grd l) g) : g ≤ l + 4 := by
  obtain ⟨n, n0, n1, dv⟩ := grd_dv (p := p) h
  exact Nat.le_trans (hg.least n0 dv) n1
theorem grd_cop {q : Int} {l : Nat} (h : PrOk q l) : TM.Cop (TM.Grd l) q := by
  unfold TM.Grd
  split
  · rename_i e
    subst e
    exact TM.Cop.pow (k := 2) h.1 h.2.1
  · exact TM.Cop.pr h.1 h.2.1
theorem grd_ne {q : Int} {l : Nat} (h : PrOk q l) : TM.Grd l ≠ 0 := by
  have := h.1.two_le
  unfold TM.Grd
  split <;> omega
theorem grd_ex {p q : Int} {l : Nat} (h : PrOk q l) : ∃ g, TM.IsRk p q (TM.Grd l) g := by
  obtain ⟨n, n0, n1, dv⟩ := grd_dv (p := p) h
  exact TM.IsRk.exist (grd_ne h) (grd_cop h) n0 dv
def rd_ground_in_0 : TSt := (sRt (tIfE (tTs (tBin oGt (tVr 1) (tKc (.int 2)))) (tCl S_prime_place_in (aCons (tVr 0) (aCons (tVr 1) aNil))) (tCl S_least_part (aCons (tVr 0) (aCons (tKc (.int 4)) (aCons (tBin oMul (tKc (.int 2)) (tCl S_prime_place_in (aCons (tVr 0) (aCons (tKc (.int 2)) aNil)))) aNil))))))
theorem sem_ground_in (ds : List D) (R : D → Prop) (h : S_ground_in ds R) : rd_ground_in_0 ⟨fun _ => R .non, fun x _ => R x, fun _ => False, fun _ => False⟩ (stE ["rule", "prime"] ds) := by
  unfold S_ground_in at h
  split at h <;> first | exact h.elim | skip
  rename_i p q l
  obtain ⟨ro, l0, po, h⟩ := h
  have l2 := po.1.two_le
  unfold rd_ground_in_0; walk_at "tq"
  refine ⟨fun z => ?_, fun z => ?_⟩
  · simp only [S_prime_place_in]
    refine ⟨ro, l0, po, fun r hr => h r ?_⟩
    unfold TM.Grd
    rw [if_neg (by omega)]
    exact hr
  · have e : l.toNat = 2 := by omega
    rw [e] at po h
    simp only [S_prime_place_in]
    refine ⟨ro, by decide, po, fun r hr => ⟨.l (by decide), ?_⟩⟩
    simp only [S_least_part]
    obtain ⟨b0, b1, bd⟩ := bd_dv (p := p) po
    have rl := hr.least (n := (bdZ p q 2).toNat) (by omega) bd
    have rp := hr.pos
    have hr2 : TM.Dv p q 2 r := hr.dv
    refine ⟨ro, by decide, by decide, by omega, by omega, grd_cop po, ?_, h⟩
    have := hr2.four
    rw [show ((2 : Int) * (r : Nat)).toNat = 2 * r by omega]
    exact this

theorem len_of_ground_in {ds : List D} {R : D → Prop} (h : S_ground_in ds R) : ds.length = 2 := by
  unfold S_ground_in at h
  first | exact h.elim | (split at h <;> first | rfl | exact h.elim)
/-! excess_in -/
def Exc (p q : Int) (l g : Nat) : Option Nat → Prop
  | none => TM.U p q g = 0
  | some e => TM.Vl l (TM.U p q g) e
def S_excess_in : FS := fun ds R => match ds with
  | [.tup [.int p, .int q], .int l] => RuleOk p q ∧ 0 ≤ l ∧ l ≤ 32000 ∧ PrOk q l.toNat ∧ ∀ (g : Nat) (o : Option Nat), TM.IsRk p q (TM.Grd l.toNat) g → Exc p q l.toNat g o → R (zD o)
  | _ => False
theorem exc_le {p q : Int} {l g e : Nat} (ro : RuleOk p q) (pl : TM.Pr l) (h : TM.Vl l (TM.U p q g) e) : e ≤ 10 * g := by
  unfold RuleOk at ro
  have u0 := h.ne pl
  have d1 : (l : Int) ^ e ∣ TM.U p q g := (h.dvd pl).mpr (Nat.le_refl e)
  have d2 : l ^ e ≤ (TM.U p q g).natAbs := by
    have := Int.natAbs_dvd_natAbs.mpr d1
    rw [Int.natAbs_pow, Int.natAbs_natCast] at this
    exact Nat.le_of_dvd (by omega) this
  have d3 := TM.U_size (p := p) (q := q) ⟨by omega, by omega⟩ ⟨by omega, by omega⟩ g
  have d4 : 2 ^ e ≤ l ^ e := Nat.pow_le_pow_left pl.two_le e
  exact (Nat.pow_le_pow_iff_right (by decide)).mp (Nat.le_trans d4 (Nat.le_trans d2 d3))
def rd_excess_in_1a_0 : TSt := (sRt (tKc .non))
def rd_excess_in_3w_0 : TSt := (sPr 4 5 (aCons (tBin oAdd (tVr 4) (tKc (.int 1))) (aCons (tBin oMul (tVr 5) (tVr 1)) aNil)))
def rd_excess_in_4 : TSt := (sRt (tVr 4))
def rd_excess_in_3 : TSt := sSq (tWh (tTs (tBin oEq (tBin oIx (tCl S_pair_mod (aCons (tVr 0) (aCons (tVr 2) (aCons (tVr 5) aNil)))) (tKc (.int 0))) (tKc (.int 0)))) rd_excess_in_3w_0) rd_excess_in_4
def rd_excess_in_2 : TSt := sSq (sPr 4 5 (aCons (tKc (.int 0)) (aCons (tVr 1) aNil))) rd_excess_in_3
def rd_excess_in_1 : TSt := sSq (sIf (tAn (tTs (tBin oNotN (tVr 3) (tKc .non))) (tTs (tBin oEq (tBin oMod (tVr 2) (tVr 3)) (tKc (.int 0))))) rd_excess_in_1a_0 sNx) rd_excess_in_2
def rd_excess_in_0 : TSt := sSq (sPr 2 3 (aCons (tCl S_ground_in (aCons (tVr 0) (aCons (tVr 1) aNil))) (aCons (tCl S_zero_in (aCons (tVr 0) aNil)) aNil))) rd_excess_in_1
theorem zeroU_spec {p q : Int} (q0 : q ≠ 0) (n : Nat) (n0 : 0 < n) : TM.U p q n = 0 ↔ ∃ z, zeroU p q = some z ∧ 0 < z ∧ z ∣ n := by
  have hd : ∀ z, zeroU p q = some z → 0 < z ∧ TM.U p q z = 0 ∧ ∀ k, 0 < k → TM.U p q k = 0 → z ≤ k := by
    intro z hz
    unfold zeroU at hz
    have hf := List.find?_eq_some_iff_append (xs := List.range 7) (p := fun i => decide (0 < i ∧ TM.U p q i = 0)) (b := z)
    rw [List.head?_filter] at hz
    obtain ⟨h1, as, bs, h2, h3⟩ := hf.mp hz
    rw [decide_eq_true_eq] at h1
    refine ⟨h1.1, h1.2, fun k k0 hk => ?_⟩
    have ez : z = as.length := by
      have := congrArg (fun l => l[as.length]?) h2
      rw [List.getElem?_append_right (Nat.le_refl _), Nat.sub_self, List.getElem?_cons_zero] at this
      rw [List.getElem?_range (by
        have := congrArg List.length h2
        simp at this
        omega)] at this
      exact (Option.some.inj this).symm
    apply Nat.le_of_not_lt
    intro l
    have : k ∈ as := by
      have h4 : (List.range 7)[k]? = as[k]? := by rw [h2, List.getElem?_append_left (by omega)]
      have l7 : as.length < 7 := by
        have := congrArg List.length h2
        simp at this
        omega
      rw [List.getElem?_range (by omega)] at h4
      exact List.mem_of_getElem? h4.symm
    have := h3 k this
    simp only [decide_eq_true_eq, Bool.not_eq_true', decide_eq_false_iff_not] at this
    exact this ⟨k0, hk⟩
  constructor
  · intro h
    obtain ⟨k, k0, k7, hk⟩ := TM.zero_small q0 n0 h
    cases e : zeroU p q with
    | none =>
      exfalso
      unfold zeroU at e
      rw [List.head?_filter, List.find?_eq_none] at e
      have := e k (List.mem_range.mpr k7)
      simp only [decide_eq_true_eq] at this
      exact this ⟨k0, hk⟩
    | some z =>
      obtain ⟨z0, hz, l⟩ := hd z e
      exact ⟨z, rfl, z0, (TM.zero_iff q0 z0 hz l n).mp h⟩
  · rintro ⟨z, e, z0, d⟩
    obtain ⟨_, hz, l⟩ := hd z e
    exact (TM.zero_iff q0 z0 hz l n).mpr d
theorem sem_excess_in (ds : List D) (R : D → Prop) (h : S_excess_in ds R) : rd_excess_in_0 ⟨fun _ => R .non, fun x _ => R x, fun _ => False, fun _ => False⟩ (stE ["rule", "prime", "ground", "zero", "found", "power"] ds) := by
  unfold S_excess_in at h
  split at h <;> first | exact h.elim | skip
  rename_i p q l
  obtain ⟨ro, l0, l1, po, h⟩ := h
  have l2 := po.1.two_le
  have ro' := ro
  unfold RuleOk at ro'
  unfold rd_excess_in_0; walk_at "tq"
  simp only [S_ground_in, S_zero_in]
  refine ⟨ro, l0, po, fun g hg => ⟨⟨by omega, by omega⟩, ⟨by omega, by omega⟩, ?_⟩⟩
  have gl := grd_le po hg
  have g0 := hg.pos
  have zs := zeroU_spec (p := p) (q := q) ro'.2.2.2.2 g g0
  have main : TM.U p q g ≠ 0 → rd_excess_in_2 ⟨fun _ => R .non, fun x _ => R x, fun _ => False, fun _ => False⟩ [.d (.tup [.int p, .int q]), .d (.int l), .d (.int g), .d (zD (zeroU p q)), .no, .no] := by
    intro u0
    obtain ⟨e, he⟩ := TM.Vl.exist po.1 u0
    have fin := h g (some e) hg he
    unfold rd_excess_in_2; walk_at "tq"
    unfold rd_excess_in_3; walk_at "tq"
    refine ⟨fun m E => ∃ f : Nat, f ≤ e ∧ m = e - f ∧ E = [.d (.tup [.int p, .int q]), .d (.int l), .d (.int g), .d (zD (zeroU p q)), .d (.int f), .d (.int (((l.toNat ^ (f + 1) : Nat)) : Int))], ⟨_, 0, Nat.zero_le _, rfl, ?_⟩, ?_⟩
    · rw [Nat.pow_succ, Nat.pow_zero, Nat.one_mul, Int.toNat_of_nonneg l0]; rfl
    rintro m E ⟨f, fe, rfl, rfl⟩
    walk_at "tq"
    simp only [S_pair_mod]
    have pos : 0 < l.toNat ^ (f + 1) := Nat.pow_pos (by omega)
    have big : ((l.toNat ^ (f + 1) : Nat) : Int) < 2 ^ 400000 := by
      have d1 : ((l.toNat : Nat) : Int) ^ f ∣ TM.U p q g := (he.dvd po.1).mpr fe
      have d2 : l.toNat ^ f ≤ (TM.U p q g).natAbs := by
        have := Int.natAbs_dvd_natAbs.mpr d1
        rw [Int.natAbs_pow, Int.natAbs_natCast] at this
        exact Nat.le_of_dvd (by omega) this
      have d3 := TM.U_size (p := p) (q := q) ⟨by omega, by omega⟩ ⟨by omega, by omega⟩ g
      have d4 : 2 ^ (10 * g) ≤ 2 ^ 399000 := Nat.pow_le_pow_right (by decide) (by omega)
      have d5 : l.toNat < 2 ^ 20 := by omega
      have d6 : l.toNat ^ (f + 1) < 2 ^ 399000 * 2 ^ 20 := by
        rw [Nat.pow_succ]
        exact Nat.mul_lt_mul_of_le_of_lt (Nat.le_trans d2 (Nat.le_trans d3 d4)) d5 (Nat.pow_pos (by decide))
      rw [← Nat.pow_add] at d6
      have d7 : 2 ^ (399000 + 20) ≤ 2 ^ 400000 := Nat.pow_le_pow_right (by decide) (by decide)
      have d8 := Nat.lt_of_lt_of_le d6 d7
      have : ((l.toNat ^ (f + 1) : Nat) : Int) < ((2 ^ 400000 : Nat) : Int) := Int.ofNat_lt.mpr d8
      rw [Int.natCast_pow] at this
      exact this
    refine ⟨⟨by omega, by omega, by omega, by omega, by omega, Int.lt_of_lt_of_le (b := 2 ^ 64) (by omega) (by decide), by omega, big⟩, ?_⟩
    walk_at "tq"
    rw [Int.toNat_natCast]
    have dvi : urest p q g ((l.toNat ^ (f + 1) : Nat) : Int) = 0 ↔ f + 1 ≤ e := by
      rw [ur_dv (by omega), Int.toNat_natCast]
      unfold TM.Dv
      rw [Int.natCast_pow, he.dvd po.1]
    refine ⟨fun z => ?_, fun z => ?_⟩
    · rw [dvi] at z
      unfold rd_excess_in_3w_0; walk_at "tq"
      refine ⟨.r ⟨by omega, by omega⟩, e - (f + 1), by omega, f + 1, z, rfl, ?_⟩
      have e1 : ((l.toNat ^ (f + 1) : Nat) : Int) * l = ((l.toNat ^ (f + 1 + 1) : Nat) : Int) := by
        rw [Nat.pow_succ l.toNat (f + 1), Int.natCast_mul, Int.toNat_of_nonneg l0]
      rw [e1]
      rfl
    · rw [dvi] at z
      have : f = e := by omega
      subst this
      unfold rd_excess_in_4; walk_at "tq"
      exact fin
  unfold rd_excess_in_1; walk_at "tq"
  cases e : zeroU p q with
  | none =>
    rw [e] at zs main
    simp only [zD]; walk_at "tq"
    refine main fun z => ?_
    obtain ⟨k, hk, _⟩ := zs.mp z
    cases hk
  | some k =>
    rw [e] at zs main
    have k0 : 0 < k := by
      unfold zeroU at e
      rw [List.head?_filter] at e
      have := List.find?_some e
      rw [decide_eq_true_eq] at this
      exact this.1
    simp only [zD]; walk_at "tq"
    refine ⟨by omega, fun z => ?_, fun z => ?_⟩
    · unfold rd_excess_in_1a_0; walk_at "tq"
      exact h g none hg (zs.mpr ⟨k, rfl, k0, Nat.dvd_of_mod_eq_zero (by omega)⟩)
    · refine main fun y => z ?_
      obtain ⟨k', hk, _, hd⟩ := zs.mp y
      cases hk
      have := Nat.mod_eq_zero_of_dvd hd
      omega

theorem len_of_excess_in {ds : List D} {R : D → Prop} (h : S_excess_in ds R) : ds.length = 2 := by
  unfold S_excess_in at h
  first | exact h.elim | (split at h <;> first | rfl | exact h.elim)
/-! power_place_in -/
def S_power_place_in : FS := fun ds R => match ds with
  | [.tup [.int p, .int q], .int l, .int j] => RuleOk p q ∧ 0 ≤ l ∧ PrOk q l.toNat ∧ 1 ≤ j ∧ j ≤ 100 ∧ (j = 1 ∨ l ≤ 32000) ∧ ∀ r : Nat, TM.IsRk p q (l.toNat ^ j.toNat) r → R (.int r)
  | _ => False
def rd_power_place_in_0a_0 : TSt := (sRt (tCl S_prime_place_in (aCons (tVr 0) (aCons (tVr 1) aNil))))
def rd_power_place_in_2a_0f_0 : TSt := (sAs 3 (tBin oMul (tVr 3) (tVr 1)))
def rd_power_place_in_2a_0 : TSt := (tFo (iR1 (aCons (tBin oSub (tVr 2) (tVr 4)) aNil)) (gNm 5) rd_power_place_in_2a_0f_0)
def rd_power_place_in_3 : TSt := (sRt (tVr 3))
def rd_power_place_in_2 : TSt := sSq (sIf (tTs (tBin oNotN (tVr 4) (tKc .non))) rd_power_place_in_2a_0 sNx) rd_power_place_in_3
def rd_power_place_in_1 : TSt := sSq (sPr 3 4 (aCons (tCl S_ground_in (aCons (tVr 0) (aCons (tVr 1) aNil))) (aCons (tCl S_excess_in (aCons (tVr 0) (aCons (tVr 1) aNil))) aNil))) rd_power_place_in_2
def rd_power_place_in_0 : TSt := sSq (sIf (tTs (tBin oEq (tVr 2) (tKc (.int 1)))) rd_power_place_in_0a_0 sNx) rd_power_place_in_1
theorem sem_power_place_in (ds : List D) (R : D → Prop) (h : S_power_place_in ds R) : rd_power_place_in_0 ⟨fun _ => R .non, fun x _ => R x, fun _ => False, fun _ => False⟩ (stE ["rule", "prime", "often", "found", "excess", "lap"] ds) := by
  unfold S_power_place_in at h
  split at h <;> first | exact h.elim | skip
  rename_i p q l j
  obtain ⟨ro, l0, po, j1, j2, jl, h⟩ := h
  have l2 := po.1.two_le
  have l32 := po.2.2.1
  unfold rd_power_place_in_0 rd_power_place_in_0a_0; walk_at "tq"
  refine ⟨fun z => ?_, fun z => ?_⟩
  · simp only [S_prime_place_in]
    subst z
    refine ⟨ro, l0, po, fun r hr => h r ?_⟩
    rw [show (1 : Int).toNat = 1 from rfl, Nat.pow_one]
    exact hr
  · unfold rd_power_place_in_1; walk_at "tq"
    simp only [S_ground_in, S_excess_in]
    obtain ⟨g, hg⟩ := grd_ex (p := p) po
    refine ⟨ro, l0, po, fun g' hg' => ⟨ro, l0, by omega, po, fun g'' o hg'' ho => ?_⟩⟩
    rw [hg''.unique hg] at ho
    rw [hg'.unique hg]
    clear hg'' hg' g'' g'
    unfold rd_power_place_in_2; walk_at "tq"
    have k2 : l.toNat = 2 → 2 ≤ j.toNat := by omega
    have k1 : 1 ≤ j.toNat := by omega
    cases o with
    | none =>
      simp only [zD]; walk_at "tq"
      unfold rd_power_place_in_3; walk_at "tq"
      exact h g (hg.pow0 ho k2 k1)
    | some e =>
      have fin := h _ (hg.pow po.1 po.2.1 ho k2 k1)
      simp only [zD]; walk_at "tq"
      unfold rd_power_place_in_2a_0; walk_at "tq"
      have he : TM.Vl l.toNat (TM.U p q g) e := ho
      have el := exc_le ro po.1 he
      have gl := grd_le po hg
      refine ⟨⟨by omega, by omega⟩, ?_⟩
      refine for_rg (fun i E => ∃ c, E = [.d (.tup [.int p, .int q]), .d (.int l), .d (.int j), .d (.int ((g * l.toNat ^ i : Nat) : Int)), .d (.int (e : Nat)), c]) ⟨.no, by simp⟩ ?_ ?_
      · rintro i E KK hi ⟨c, rfl⟩ hK
        walk_at "tq"
        unfold rd_power_place_in_2a_0f_0; walk_at "tq"
        refine ⟨.r ⟨by omega, by omega⟩, ?_⟩
        have e1 : ((g * l.toNat ^ i : Nat) : Int) * l = ((g * l.toNat ^ (i + 1) : Nat) : Int) := by
          rw [Nat.pow_succ, ← Nat.mul_assoc, Int.natCast_mul (g * l.toNat ^ i), Int.toNat_of_nonneg l0]
        rw [e1]
        exact hK _ ⟨_, rfl⟩
      · rintro E ⟨c, rfl⟩
        unfold rd_power_place_in_3; walk_at "tq"
        rw [show (j - (e : Int)).toNat = j.toNat - e by omega]
        exact fin

theorem len_of_power_place_in {ds : List D} {R : D → Prop} (h : S_power_place_in ds R) : ds.length = 3 := by
  unfold S_power_place_in at h
  first | exact h.elim | (split at h <;> first | rfl | exact h.elim)
/-! first_place_in -/
def S_first_place_in : FS := fun ds R => match ds with
  | [.tup [.int p, .int q], .int m] => RuleOk p q ∧ 1 ≤ m ∧ m ≤ 1000000000 ∧ TM.Cop m.toNat q ∧ (∀ l, TM.Pr l → l ∣ m.toNat → JOk l) ∧ ∀ r : Nat, TM.IsRk p q m.toNat r → r ≤ m.toNat ^ 2 → R (.int r)
  | _ => False
theorem rk_size {p q : Int} {l j r : Nat} (po : PrOk q l) (j1 : 1 ≤ j) (h : TM.IsRk p q (l ^ j) r) : r ≤ (l ^ j) ^ 2 := by
  have l2 := po.1.two_le
  obtain ⟨b0, b1, bd⟩ := bd_dv (p := p) po
  have e2 : (l ^ j) ^ 2 = l ^ (j + j) := by rw [← Nat.pow_mul]; congr 1; omega
  rw [e2]
  by_cases e : l = 2
  · subst e
    by_cases j1 : j = 1
    · subst j1
      have := h.least (n := (bdZ p q 2).toNat) (by omega) bd
      have : 2 ^ (1 + 1) = 4 := rfl
      omega
    · have d4 : TM.Dv p q 4 (2 * (bdZ p q 2).toNat) := bd.four
      obtain ⟨g, hg⟩ := grd_ex (p := p) po
      have gl : g ≤ 6 := by
        have := hg.least (n := 2 * (bdZ p q 2).toNat) (by omega) d4
        omega
      obtain ⟨i, rfl⟩ : ∃ i, j = i + 2 := ⟨j - 2, by omega⟩
      have big : 6 * 2 ^ i ≤ 2 ^ (i + 2 + (i + 2)) := by
        have h1 : 2 ^ (i + 3) ≤ 2 ^ (i + 2 + (i + 2)) := Nat.pow_le_pow_right (by decide) (by omega)
        have h2 : 2 ^ (i + 3) = 2 ^ i * 8 := by rw [Nat.pow_add]
        omega
      have p1 : 1 ≤ 2 ^ i := Nat.pow_pos (by decide)
      by_cases u : TM.U p q g = 0
      · rw [h.unique (hg.pow0 u (by omega) (by omega))]
        omega
      · obtain ⟨e, he⟩ := TM.Vl.exist po.1 u
        have e2 : 2 ≤ e := (he.dvd po.1 (k := 2)).mp hg.dv
        rw [h.unique (hg.pow po.1 po.2.1 he (by omega) (by omega))]
        have h3 : 2 ^ (i + 2 - e) ≤ 2 ^ i := Nat.pow_le_pow_right (by decide) (by omega)
        exact Nat.le_trans (Nat.mul_le_mul gl h3) big
  · obtain ⟨g, hg⟩ := grd_ex (p := p) po
    have eG : TM.Grd l = l := by unfold TM.Grd; rw [if_neg e]
    rw [eG] at hg
    have gl : g ≤ l + 1 := by
      have := hg.least (n := (bdZ p q l).toNat) (by omega) bd
      omega
    have ll : l + 1 ≤ l * l := by
      have := Nat.mul_le_mul (show 3 ≤ l by omega) (Nat.le_refl l)
      omega
    obtain ⟨i, rfl⟩ : ∃ i, j = i + 1 := ⟨j - 1, by omega⟩
    have big : (l + 1) * l ^ i ≤ l ^ (i + 1 + (i + 1)) := by
      have h1 : l ^ (i + 2) ≤ l ^ (i + 1 + (i + 1)) := Nat.pow_le_pow_right (by omega) (by omega)
      have h2 : l ^ (i + 2) = l * l * l ^ i := by rw [Nat.pow_succ, Nat.pow_succ, Nat.mul_comm, Nat.mul_comm (l ^ i), Nat.mul_assoc]
      have h3 := Nat.mul_le_mul_right (l ^ i) ll
      omega
    have p1 : 1 ≤ l ^ i := Nat.pow_pos (by omega)
    rw [← eG] at hg
    by_cases u : TM.U p q g = 0
    · rw [h.unique (hg.pow0 u (by omega) (by omega))]
      have h3 := Nat.mul_le_mul (Nat.le_refl (l + 1)) p1
      omega
    · obtain ⟨e, he⟩ := TM.Vl.exist po.1 u
      have e2 : 1 ≤ e := by
        refine (he.dvd po.1 (k := 1)).mp ?_
        have := hg.dv
        unfold TM.Dv at this
        rw [eG] at this
        rw [Int.pow_succ, Int.pow_zero, Int.one_mul]
        exact this
      rw [h.unique (hg.pow po.1 po.2.1 he (by omega) (by omega))]
      have h3 : l ^ (i + 1 - e) ≤ l ^ i := Nat.pow_le_pow_right (by omega) (by omega)
      exact Nat.le_trans (Nat.mul_le_mul gl h3) big
def rd_first_place_in_1f_0 : TSt := (sAs 2 (tCl S_lcm (aCons (tVr 2) (aCons (tCl S_power_place_in (aCons (tVr 0) (aCons (tVr 3) (aCons (tVr 4) aNil)))) aNil))))
def rd_first_place_in_2 : TSt := (sRt (tVr 2))
def rd_first_place_in_1 : TSt := sSq (tFo (iTp (tCl S_primes_of (aCons (tVr 1) aNil))) (gTp 2 (gCn (gNm 3) (gCn (gNm 4) gNl))) rd_first_place_in_1f_0) rd_first_place_in_2
def rd_first_place_in_0 : TSt := sSq (sAs 2 (tKc (.int 1))) rd_first_place_in_1
theorem sem_first_place_in (ds : List D) (R : D → Prop) (h : S_first_place_in ds R) : rd_first_place_in_0 ⟨fun _ => R .non, fun x _ => R x, fun _ => False, fun _ => False⟩ (stE ["rule", "modulus", "found", "prime", "often"] ds) := by
  unfold S_first_place_in at h
  split at h <;> first | exact h.elim | skip
  rename_i p q m
  obtain ⟨ro, m1, m2, co, jo, h⟩ := h
  unfold rd_first_place_in_0; walk_at "tq"
  unfold rd_first_place_in_1; walk_at "tq"
  simp only [S_primes_of]; walk_at "tq"
  refine ⟨m1, by omega, fun L hL => ?_⟩
  refine for_inv (fun i E => ∃ (f : Nat) (c d : Sl), E = [.d (.tup [.int p, .int q]), .d (.int m), .d (.int f), c, d] ∧ TM.IsRk p q (TM.prodF (L.take i)) f ∧ f ≤ TM.prodF (L.take i) ^ 2) ⟨1, .no, .no, rfl, ?_, ?_⟩ ?_ ?_
  · rw [List.take_zero]; exact TM.IsRk.one p q
  · rw [List.take_zero]; exact Nat.le_refl 1
  · rintro i x E KK hx ⟨f, c, d, rfl, hf, fs⟩ hK
    unfold facD at hx
    rw [List.getElem?_map] at hx
    cases e : L[i]? with
    | none => rw [e] at hx; cases hx
    | some y =>
      rw [e] at hx
      cases hx
      obtain ⟨l, j⟩ := y
      have ym := List.mem_of_getElem? e
      have yp := (hL.pr _ ym).1
      have j1 : 1 ≤ j := (hL.pr _ ym).2
      have l2 : 2 ≤ l := yp.two_le
      have pd := hL.mem_dvd ym
      have ps := Nat.le_of_dvd (by omega) pd
      have ldp : l ∣ l ^ j := by have := Nat.pow_dvd_pow l j1; rwa [Nat.pow_one] at this
      have ldm : l ∣ m.toNat := Nat.dvd_trans ldp pd
      have lm := Nat.le_of_dvd (by omega) ldm
      have nq : ¬ (l : Int) ∣ q := fun z => by
        have := Nat.dvd_gcd ldm (Int.ofNat_dvd_left.mp z)
        rw [co] at this
        have := Nat.le_of_dvd (by decide) this
        omega
      have po : PrOk q l := ⟨yp, nq, by omega, jo l yp ldm⟩
      have eP : TM.prodF (L.take (i + 1)) = TM.prodF (L.take i) * l ^ j := by
        rw [List.take_succ, e, TM.prodF_append]
        simp [TM.prodF]
      have split : L = L.take i ++ (l, j) :: L.drop (i + 1) := by
        have il := (List.getElem?_eq_some_iff.mp e).1
        have := (List.take_append_drop i L).symm
        rw [List.drop_eq_getElem_cons il, (List.getElem?_eq_some_iff.mp e).2] at this
        exact this
      have cop : Nat.Coprime (TM.prodF (L.take i)) (l ^ j) := (split ▸ hL).coprime
      have Ple : TM.prodF (L.take i) * l ^ j ≤ m.toNat := by
        have := congrArg TM.prodF split
        rw [TM.prodF_append, hL.prod] at this
        rw [this]
        show _ ≤ TM.prodF (L.take i) * (l ^ j * TM.prodF (L.drop (i + 1)))
        rw [← Nat.mul_assoc]
        exact Nat.le_mul_of_pos_right _ (TM.prodF_pos fun x hx => hL.pr x (List.mem_of_mem_drop hx))
      have j30 : j ≤ 30 := by
        apply Nat.le_of_not_lt
        intro z
        have h1 : 2 ^ 31 ≤ 2 ^ j := Nat.pow_le_pow_right (by decide) (by omega)
        have h2 : 2 ^ j ≤ l ^ j := Nat.pow_le_pow_left l2 j
        omega
      have jl : j = 1 ∨ l ≤ 32000 := by
        by_cases z : j = 1
        · exact .inl z
        · right
          apply Nat.le_of_not_lt
          intro w
          have h1 : l ^ 2 ≤ l ^ j := Nat.pow_le_pow_right (by omega) (by omega)
          rw [Nat.pow_succ, Nat.pow_one] at h1
          have h2 := Nat.mul_le_mul w w
          omega
      simp only []
      walk_at "tq"
      unfold rd_first_place_in_1f_0; walk_at "tq"
      simp only [S_power_place_in, Int.toNat_natCast]
      refine ⟨ro, by omega, po, by omega, by omega, by omega, fun r hr => ?_⟩
      simp only [S_lcm, Int.toNat_natCast]
      have rs := rk_size po j1 hr
      have b4 : ∀ {x y : Nat}, x ≤ y ^ 2 → y ≤ m.toNat → Sz 4000 (x : Int) := fun {x y} h1 h2 => by
        have h3 : y ^ 2 ≤ (2 ^ 30) ^ 2 := Nat.pow_le_pow_left (by omega) 2
        have h4 : x < 2 ^ 121 := by omega
        have h5 : Sz 121 (x : Int) := by unfold Sz; rw [Int.natAbs_natCast]; exact h4
        exact h5.mono (by decide)
      have fp := hf.pos
      have rp := hr.pos
      refine ⟨by omega, by omega, b4 fs (Nat.le_trans (Nat.le_mul_of_pos_right _ (Nat.pow_pos (by omega))) Ple), b4 rs ps, hK _ ⟨Nat.lcm f r, _, _, rfl, ?_, ?_⟩⟩
      · rw [eP]
        exact hf.mul hr cop
      · rw [eP, Nat.mul_pow]
        refine Nat.le_trans (Nat.le_of_dvd (Nat.mul_pos fp rp) (Nat.lcm_dvd_mul f r)) (Nat.mul_le_mul fs rs)
  · rintro E ⟨f, c, d, rfl, hf, fs⟩
    have el : (facD L).length = L.length := by simp [facD]
    rw [el, List.take_length, hL.prod] at hf fs
    unfold rd_first_place_in_2; walk_at "tq"
    exact h f hf fs

theorem len_of_first_place_in {ds : List D} {R : D → Prop} (h : S_first_place_in ds R) : ds.length = 2 := by
  unfold S_first_place_in at h
  first | exact h.elim | (split at h <;> first | rfl | exact h.elim)
/-! quotient -/
def S_quotient : FS := fun ds R => match ds with
  | [.tup [.int p, .int q], .int n, .int t] => RuleOk p q ∧ 1 ≤ n ∧ 0 ≤ t ∧ n * t ≤ 3000 ∧ n ≤ 800 ∧ TM.U p q n.toNat ≠ 0 ∧ ∀ x, x * TM.U p q n.toNat = TM.U p q (n * t).toNat → R (.int x)
  | _ => False
def rd_quotient_4a_0 : TSt := sNever
def rd_quotient_5 : TSt := (sRt (tBin oDivZ (tSeen 6 (tBin oMul (tVr 4) (tVr 5))) (tSeen 6 (tVr 4))))
def rd_quotient_4 : TSt := sSq (sIf (tTs (tBin oEq (tSeen 6 (tVr 4)) (tKc (.int 0)))) rd_quotient_4a_0 sNx) rd_quotient_5
def rd_quotient_3 : TSt := sSq (sAs 6 (tCl S_terms_in (aCons (tVr 3) (aCons (tKc (.str "u")) (aCons (tBin oAdd (tBin oMul (tVr 4) (tBl oMax2 (aCons (tVr 5) (aCons (tKc (.int 1)) aNil)))) (tKc (.int 1))) aNil))))) rd_quotient_4
def rd_quotient_2 : TSt := sSq (sAs 5 (tCl S_sure_within (aCons (tVr 2) (aCons (tKc (.int 0)) (aCons (tBin oDiv (tKc (.int 3000)) (tVr 4)) aNil))))) rd_quotient_3
def rd_quotient_1 : TSt := sSq (sAs 4 (tCl S_sure_within (aCons (tVr 1) (aCons (tKc (.int 1)) (aCons (tKc (.int 3000)) aNil))))) rd_quotient_2
def rd_quotient_0 : TSt := sSq (sAs 3 (tCl S_sure_rule (aCons (tVr 0) aNil))) rd_quotient_1
theorem sem_quotient (ds : List D) (R : D → Prop) (h : S_quotient ds R) : rd_quotient_0 ⟨fun _ => R .non, fun x _ => R x, fun _ => False, fun _ => False⟩ (stE ["rule", "number", "often", "own", "near", "times", "rows"] ds) := by
  unfold S_quotient at h
  split at h <;> first | exact h.elim | skip
  rename_i p q n t
  obtain ⟨ro, n1, t0, nt, n8, u0, h⟩ := h
  obtain ⟨n, rfl⟩ : ∃ x : Nat, n = x := ⟨n.toNat, by omega⟩
  obtain ⟨t, rfl⟩ : ∃ x : Nat, t = x := ⟨t.toNat, by omega⟩
  have ro' := ro
  unfold RuleOk at ro'
  rw [Int.toNat_natCast] at u0 h
  have ent : ((n : Int) * (t : Int)).toNat = n * t := by rw [← Int.natCast_mul, Int.toNat_natCast]
  rw [ent] at h
  unfold rd_quotient_0; walk_at "tq"
  simp only [S_sure_rule]
  refine ⟨ro, ?_⟩
  unfold rd_quotient_1; walk_at "tq"
  simp only [S_sure_within]
  refine ⟨n1, by omega, ?_⟩
  unfold rd_quotient_2; walk_at "tq"
  simp only [S_sure_within]
  have tle : (t : Int) ≤ 3000 / (n : Int) := by
    rw [Int.le_ediv_iff_mul_le (by omega), Int.mul_comm]; exact nt
  refine ⟨cdw (by omega) (by omega), t0, tle, ?_⟩
  unfold rd_quotient_3; walk_at "tq"
  simp only [S_terms_in, rl]
  have eM : (if (1 : Int) > (t : Int) then (1 : Int) else (t : Int)) = ((if t = 0 then 1 else t : Nat) : Int) := by
    by_cases z : t = 0
    · rw [if_pos (by omega), if_pos z]; rfl
    · rw [if_neg (by omega), if_neg z]
  rw [eM]
  generalize hM : (if t = 0 then 1 else t) = M
  have m1 : 1 ≤ M := by rw [← hM]; split <;> omega
  have mt : t ≤ M := by rw [← hM]; split <;> omega
  have mm : n * M ≤ 3000 := by
    rw [← hM]
    split
    · omega
    · have : n * t ≤ 3000 := by rw [← Int.natCast_mul] at nt; omega
      exact this
  have nM : n ≤ n * M := Nat.le_mul_of_pos_right n m1
  have ntM : n * t ≤ n * M := Nat.mul_le_mul_left n mt
  have e1 : (n : Int) * (M : Int) = ((n * M : Nat) : Int) := by rw [Int.natCast_mul]
  have e2 : (n : Int) * (t : Int) = ((n * t : Nat) : Int) := by rw [Int.natCast_mul]
  refine ⟨.l ⟨by omega, by omega⟩, ⟨by omega, by omega⟩, ⟨by omega, by omega⟩, by omega, by omega, ?_⟩
  rw [e1, show ((n * M : Nat) : Int) + 1 = ((n * M + 1 : Nat) : Int) by omega, Int.toNat_natCast]
  have at_ : ∀ k : Nat, k ≤ n * M → atI (trD p q ("u" : Str) (n * M + 1)) (k : Int) = some (.int (TM.U p q k)) := fun k hk => by
    refine atI_nn (by omega) ?_
    rw [Int.toNat_natCast]
    unfold trD
    rw [List.getElem?_map, List.getElem?_range (by omega)]
    simp [trW]
  unfold rd_quotient_4; walk_at "tq"
  rw [at_ n nM]; walk_at "tq"
  refine ⟨fun z => absurd z u0, fun _ => ?_⟩
  unfold rd_quotient_5; walk_at "tq"
  refine ⟨.l ⟨by omega, by omega⟩, ?_⟩
  rw [e2, at_ _ ntM, at_ n nM]; walk_at "tq"
  have us := TM.U_size (p := p) (q := q) ⟨by omega, by omega⟩ ⟨by omega, by omega⟩ n
  refine ⟨⟨u0, ?_⟩, h _ ?_⟩
  · refine (Nat.log2_lt (by omega)).mpr (Nat.lt_of_le_of_lt us ?_)
    exact Nat.pow_lt_pow_right (by decide) (by omega)
  · have dv : TM.U p q n ∣ TM.U p q (n * t) := by rw [TM.U_mulV]; exact ⟨_, rfl⟩
    exact Int.fdiv_mul_cancel dv

theorem len_of_quotient {ds : List D} {R : D → Prop} (h : S_quotient ds R) : ds.length = 3 := by
  unfold S_quotient at h
  first | exact h.elim | (split at h <;> first | rfl | exact h.elim)
/-! _law_box -/
def TinOk (n : Nat) (z : D) : Prop := ∃ a b c : Int, z = .lst [.int a, .int b, .int c] ∧ 0 ≤ a ∧ 0 ≤ b ∧ b < 2 ^ 63 ∧ 0 ≤ c ∧ c ≤ n
def S__law_box : FS := fun ds R => match ds with
  | [.lst ds, .int k] => (∃ xs : List Int, xs ≠ [] ∧ ds = xs.map D.int) ∧ 0 ≤ k ∧ k < 100 ∧ ∀ z, TinOk 0 z → R z
  | _ => False
def rd__law_box_1 : TSt := (sRt (tLi (aCons (tBin oMul (tBl oAbs (aCons (tVr 2) aNil)) (tBl oInt1 (aCons (tBin oGe (tBl oAbs (aCons (tVr 2) aNil)) (tBin oPow (tKc (.int 10)) (tKc (.int 18)))) aNil))) (aCons (tBin oAdd (tBin oAdd (tBin oMod (tBl oInt1 (aCons (tVr 2) aNil)) (tKc (.int 2305843009213693951))) (tBin oMul (tKc (.int 39373)) (tVr 1))) (tKc (.int 262920))) (aCons (tKc (.int 0)) aNil)))))
def rd__law_box_0 : TSt := sSq (sAs 2 (tIfE (tTs (tBin oLt (tVr 1) (tLenN 0))) (tSeen 0 (tVr 1)) (tKc (.int 0)))) rd__law_box_1
theorem atI_map {xs : List Int} {i : Int} (h0 : 0 ≤ i) (h : i < xs.length) : ∃ x, atI (xs.map D.int) i = some (.int x) := by
  have l : i.toNat < xs.length := by omega
  exact ⟨xs[i.toNat], atI_nn h0 (by rw [List.getElem?_map, List.getElem?_eq_getElem l]; rfl)⟩
theorem sem__law_box (ds : List D) (R : D → Prop) (h : S__law_box ds R) : rd__law_box_0 ⟨fun _ => False, fun x _ => R x, fun _ => False, fun _ => False⟩ (stE ["script", "k", "bit_so"] ds) := by
  unfold S__law_box at h
  split at h <;> first | exact h.elim | skip
  rename_i ds k
  obtain ⟨⟨xs, xn, rfl⟩, k0, k1, h⟩ := h
  have fin : ∀ x : Int, rd__law_box_1 ⟨fun _ => False, fun x _ => R x, fun _ => False, fun _ => False⟩ [.d (.lst (xs.map D.int)), .d (.int k), .d (.int x)] := fun x => by
    unfold rd__law_box_1; walk_at "tq"
    rw [abs_eq]
    refine ⟨⟨by decide, by decide, by decide⟩, .r ?_, by decide, .l (by decide), h _ ?_⟩
    · split <;> decide
    · refine ⟨_, _, _, rfl, ?_, ?_, ?_, Int.le_refl 0, Int.le_refl 0⟩
      · refine Int.mul_nonneg (by omega) ?_
        split <;> decide
      · have := Int.emod_nonneg x (show (2305843009213693951 : Int) ≠ 0 by decide)
        omega
      · have := Int.emod_lt_of_pos x (show (0 : Int) < 2305843009213693951 by decide)
        omega
  unfold rd__law_box_0; walk_at "tq"
  refine ⟨fun z => ?_, fun z => ?_⟩
  · obtain ⟨x, hx⟩ := atI_map (xs := xs) k0 (by simpa using z)
    rw [hx]
    exact fin x
  · exact fin 0

theorem len_of__law_box {ds : List D} {R : D → Prop} (h : S__law_box ds R) : ds.length = 2 := by
  unfold S__law_box at h
  first | exact h.elim | (split at h <;> first | rfl | exact h.elim)
/-! _law_take -/
def S__law_take : MS := fun z ds R => match ds with
  | [.int m] => 0 < m ∧ m < 2 ^ 200 ∧ ∃ n : Nat, n < 2 ^ 40 ∧ TinOk n z ∧ ∀ (r : Int) (z' : D), 0 ≤ r → r < m → TinOk (n + 1) z' → R (.int r) z'
  | _ => False
def rd__law_take_0a_2 : TSt := (sRt (tVr 2))
def rd__law_take_0a_1 : TSt := sSq (sSi0 0 (tBin oDiv (tSeen 0 (tKc (.int 0))) (tVr 1)) (tKc (.int 0))) rd__law_take_0a_2
def rd__law_take_0a_0 : TSt := sSq (sAs 2 (tBin oMod (tBl oInt1 (aCons (tSeen 0 (tKc (.int 0))) aNil)) (tVr 1))) rd__law_take_0a_1
def rd__law_take_5 : TSt := (sRt (tBin oMod (tBl oInt1 (aCons (tBin oDiv (tBin oMod (tBl oInt1 (aCons (tBin oAdd (tBin oMul (tVr 5) (tKc (.int 48271))) (tVr 3)) aNil)) (tKc (.int 2147483587))) (tKc (.int 64))) aNil)) (tVr 1)))
def rd__law_take_4 : TSt := sSq (sAs 5 (tBin oMod (tBl oInt1 (aCons (tBin oMul (tBin oAdd (tBin oAdd (tVr 3) (tSeen 0 (tKc (.int 2)))) (tBin oDiv (tSeen 0 (tKc (.int 1))) (tKc (.int 1000003)))) (tVr 4)) aNil)) (tKc (.int 2147483629)))) rd__law_take_5
def rd__law_take_3 : TSt := sSq (sAs 4 (tBin oAdd (tBin oMod (tBl oInt1 (aCons (tVr 3) aNil)) (tKc (.int 40009))) (tKc (.int 7)))) rd__law_take_4
def rd__law_take_2 : TSt := sSq (sAs 3 (tBin oMod (tBl oInt1 (aCons (tBin oMul (tBin oAdd (tSeen 0 (tKc (.int 1))) (tBin oMul (tKc (.int 48271)) (tSeen 0 (tKc (.int 2))))) (tBin oAdd (tKc (.int 39373)) (tSeen 0 (tKc (.int 2))))) aNil)) (tKc (.int 2147483647)))) rd__law_take_3
def rd__law_take_1 : TSt := sSq (sSi0 0 (tBin oAdd (tSeen 0 (tKc (.int 2))) (tKc (.int 1))) (tKc (.int 2))) rd__law_take_2
def rd__law_take_0 : TSt := sSq (sIf (tTs (tBin oGt (tSeen 0 (tKc (.int 0))) (tKc (.int 0)))) rd__law_take_0a_0 sNx) rd__law_take_1
theorem sem__law_take (z : D) (ds : List D) (R : D → D → Prop) (h : S__law_take z ds R) : rd__law_take_0 ⟨fun E => match gt E 0 with | .o z' => R .non z' | _ => False, fun x E => match gt E 0 with | .o z' => R x z' | _ => False, fun _ => False, fun _ => False⟩ (stM ["tin", "below_so", "drawn_so", "once_so", "wide_so", "twice_so"] z ds) := by
  unfold S__law_take at h
  split at h <;> first | exact h.elim | skip
  rename_i m
  obtain ⟨m0, m1, n, n1, ⟨a, b, c, rfl, a0, b0, b1, c0, c1⟩, h⟩ := h
  have ix2 : ixN 3 2 = some 2 := by decide
  have ix0 : ixN 3 0 = some 0 := by decide
  unfold rd__law_take_0; walk_at "tq"
  refine ⟨fun z => ?_, fun z => ?_⟩
  · unfold rd__law_take_0a_0; walk_at "tq"
    refine ⟨m0, ?_⟩
    unfold rd__law_take_0a_1; walk_at "tq"
    have sm : Sz 200 m := .of (by have : (0 : Int) ≤ 2 ^ 200 := by decide
                                  omega) m1
    refine ⟨cdwS m0 sm, ?_⟩
    rw [ix0]
    unfold rd__law_take_0a_2; walk_at "tq"
    exact h _ _ (Int.emod_nonneg _ (by omega)) (Int.emod_lt_of_pos _ m0) ⟨_, _, _, rfl, Int.ediv_nonneg a0 (by omega), b0, b1, c0, by omega⟩
  · unfold rd__law_take_1; walk_at "tq"
    rw [ix2]
    unfold rd__law_take_2; walk_at "tq"
    refine ⟨.l (by decide), .r ⟨by omega, by omega⟩, by decide, ?_⟩
    generalize hx : (b + 48271 * (c + 1)) * (39373 + (c + 1)) % 2147483647 = x
    have x0 : 0 ≤ x := by rw [← hx]; exact Int.emod_nonneg _ (by decide)
    have x1 : x < 2147483647 := by rw [← hx]; exact Int.emod_lt_of_pos _ (by decide)
    unfold rd__law_take_3; walk_at "tq"
    refine ⟨by decide, ?_⟩
    unfold rd__law_take_4; walk_at "tq"
    refine ⟨cdw (by decide) (by decide), .r ⟨by omega, by omega⟩, by decide, ?_⟩
    generalize hy : (x + (c + 1) + b / 1000003) * (x % 40009 + 7) % 2147483629 = y
    unfold rd__law_take_5; walk_at "tq"
    refine ⟨.r (by decide), by decide, cdw (by decide) (by decide), m0, ?_⟩
    exact h _ _ (Int.emod_nonneg _ (by omega)) (Int.emod_lt_of_pos _ m0) ⟨_, _, _, rfl, a0, b0, b1, by omega, by omega⟩

theorem len_of__law_take {z : D} {ds : List D} {R : D → D → Prop} (h : S__law_take z ds R) : ds.length + 1 = 2 := by
  unfold S__law_take at h
  first | exact h.elim | (split at h <;> first | rfl | exact h.elim)
/-! _law_cells -/
def S__law_cells : FS := fun ds R => match ds with
  | [.lst ds, .int m] => (∃ xs : List Int, ds = xs.map D.int) ∧ 1 ≤ m ∧ m ≤ 63 ∧ ∀ ys : List Int, ys ≠ [] → R (.lst (ys.map D.int))
  | _ => False
def rd__law_cells_1f_1 : TSt := (sSi0 2 (tBin oAdd (tSeen 2 (tVr 5)) (tBin oMul (tVr 4) (tBin oAdd (tVr 3) (tKc (.int 2))))) (tVr 5))
def rd__law_cells_1f_0 : TSt := sSq (sAs 5 (tBin oMod (tBl oInt1 (aCons (tVr 3) aNil)) (tVr 1))) rd__law_cells_1f_1
def rd__law_cells_2 : TSt := (sRt (tVr 2))
def rd__law_cells_1 : TSt := sSq (tFo (iEn (aCons (tSlc (tVr 0) (qSo (tVr 1)) (qSo (tKc (.int 63)))) aNil)) (gTp 2 (gCn (gNm 3) (gCn (gNm 4) gNl))) rd__law_cells_1f_0) rd__law_cells_2
def rd__law_cells_0 : TSt := sSq (sAo 2 (tOrL (tBl oList (aCons (tSlc (tVr 0) qNo (qSo (tVr 1))) aNil)) (tLi (aCons (tKc (.int 0)) aNil)))) rd__law_cells_1
theorem cutD_map (xs : List Int) (lo hi : Option Int) : ∃ ys : List Int, cutD (xs.map D.int) lo hi = ys.map D.int := by
  unfold cutD
  rw [List.length_map, ← List.map_drop, ← List.map_take]
  exact ⟨_, rfl⟩
theorem sem__law_cells (ds : List D) (R : D → Prop) (h : S__law_cells ds R) : rd__law_cells_0 ⟨fun _ => R .non, fun x _ => R x, fun _ => False, fun _ => False⟩ (stE ["script", "most_so", "cells_so", "k", "bit_so", "at_so"] ds) := by
  unfold S__law_cells at h
  split at h <;> first | exact h.elim | skip
  rename_i ds m
  obtain ⟨⟨xs, rfl⟩, m1, m2, h⟩ := h
  have cut_ne : (cutD (xs.map D.int) (some m) (some 63)) ≠ [] → m < xs.length := fun w => by
    apply Int.lt_of_not_ge
    intro l
    refine w ?_
    unfold cutD
    have : HT.sIx (xs.map D.int).length 0 (some m) = (xs.map D.int).length := by
      show (if m < 0 then _ else _) = _
      rw [if_neg (by omega), List.length_map]
      omega
    rw [this, List.drop_length, List.take_nil]
  have main : ∀ cs : List Int, cs ≠ [] → ((cutD (xs.map D.int) (some m) (some 63)) ≠ [] → m ≤ cs.length) → rd__law_cells_1 ⟨fun _ => R .non, fun x _ => R x, fun _ => False, fun _ => False⟩ [.d (.lst (xs.map D.int)), .d (.int m), .o (.lst (cs.map D.int)), .no, .no, .no] := by
    intro cs cn cl
    obtain ⟨ys, hy⟩ := cutD_map xs (some m) (some 63)
    rw [hy] at cl
    unfold rd__law_cells_1; walk_at "tq"
    rw [hy]
    refine for_inv (fun i E => ∃ (cs : List Int) (a b c : Sl), E = [.d (.lst (xs.map D.int)), .d (.int m), .o (.lst (cs.map D.int)), a, b, c] ∧ cs ≠ [] ∧ (ys.map D.int ≠ [] → m ≤ cs.length)) ⟨cs, .no, .no, .no, rfl, cn, cl⟩ ?_ ?_
    · rintro i x E KK hx ⟨cs, a, b, c, rfl, cn, cl⟩ hK
      obtain ⟨y, hy1, rfl⟩ := enD_get hx
      rw [List.getElem?_map] at hy1
      cases e : ys[i]? with
      | none => rw [e] at hy1; cases hy1
      | some w =>
        rw [e] at hy1
        cases hy1
        have yn : ys.map D.int ≠ [] := by
          intro z
          rw [List.map_eq_nil_iff] at z
          rw [z] at e
          cases e
        have ml := cl yn
        have k0 := Int.emod_nonneg (i : Int) (show m ≠ 0 by omega)
        have k1 := Int.emod_lt_of_pos (i : Int) (show 0 < m by omega)
        simp only []
        walk_at "tq"
        unfold rd__law_cells_1f_0; walk_at "tq"
        refine ⟨by omega, ?_⟩
        unfold rd__law_cells_1f_1; walk_at "tq"
        obtain ⟨v, hv⟩ := atI_map (xs := cs) k0 (by omega)
        rw [hv]; walk_at "tq"
        have il : i < 63 := by
          have h1 := (List.getElem?_eq_some_iff.mp e).1
          have h2 : (cutD (xs.map D.int) (some m) (some 63)).length ≤ 63 := by
            unfold cutD
            refine Nat.le_trans (List.length_take_le _ _) ?_
            have : HT.sIx (xs.map D.int).length (xs.map D.int).length (some 63) ≤ 63 := by
              show min (63 : Int).toNat _ ≤ 63
              exact Nat.min_le_left _ _
            omega
          rw [hy, List.length_map] at h2
          omega
        refine ⟨.r ⟨by omega, by omega⟩, ?_⟩
        have hix : ixN (cs.map D.int).length ((i : Int) % m) = some ((i : Int) % m).toNat := by
          unfold ixN
          rw [List.length_map, if_pos k0, if_pos (by omega)]
        rw [hix]
        refine hK _ ⟨cs.set ((i : Int) % m).toNat (v + w * ((i : Int) + 2)), _, _, _, by rw [List.map_set], ?_, ?_⟩
        · intro z
          have := congrArg List.length z
          rw [List.length_set] at this
          exact cn (List.length_eq_zero_iff.mp this)
        · rw [List.length_set]; exact fun _ => ml
    · rintro E ⟨cs, a, b, c, rfl, cn, cl⟩
      unfold rd__law_cells_2; walk_at "tq"
      exact h cs cn
  unfold rd__law_cells_0; walk_at "tq"
  obtain ⟨ys, hy⟩ := cutD_map xs none (some m)
  have hy' := hy
  rw [cutD_to _ (by omega)] at hy'
  refine ⟨fun z => ?_, fun z => ?_⟩
  · rw [hy]
    refine main ys (by rw [hy] at z; intro w; rw [w] at z; exact z rfl) fun w => ?_
    have lx := cut_ne w
    have := congrArg List.length hy'
    rw [List.length_take, List.length_map, List.length_map] at this
    omega
  · refine main [0] (by simp) fun w => ?_
    have lx := cut_ne w
    rw [hy] at z
    rw [z] at hy'
    have := congrArg List.length hy'
    rw [List.length_take, List.length_map, List.length_nil] at this
    omega

theorem len_of__law_cells {ds : List D} {R : D → Prop} (h : S__law_cells ds R) : ds.length = 2 := by
  unfold S__law_cells at h
  first | exact h.elim | (split at h <;> first | rfl | exact h.elim)
/-! _law_same -/
/-- values that may be the same -/
def samN : Nat → D → Prop
  | _, .int _ => True
  | _, .bl _ => True
  | _, .str _ => True
  | _, .non => True
  | n + 1, .tup ds => ds.length ≤ 1000000 ∧ ∀ d ∈ ds, samN n d
  | n + 1, .lst ds => ds.length ≤ 1000000 ∧ ∀ d ∈ ds, samN n d
  | _, _ => False
def S__law_sameN (n : Nat) : FS := fun ds R => match ds with
  | [x, y] => samN n x ∧ samN n y ∧ ∀ b : Bool, (b = true ↔ x = y) → R (.bl b)
  | _ => False
def rd__law_same_0a_0a_0 (S__law_same : FS) : TSt := (sRt (tKc (.bl false)))
def rd__law_same_0a_1 (S__law_same : FS) : TSt := (sRt (tAnV (tBin oEq (tLenN 0) (tLenN 1)) (tBl oAll (aCons (tLcm (iZp (aCons (tVr 0) (aCons (tVr 1) aNil))) (gTp 2 (gCn (gNm 2) (gCn (gNm 3) gNl))) tYs (tCl S__law_same (aCons (tVr 2) (aCons (tVr 3) aNil))) [2, 3]) aNil))))
def rd__law_same_0a_0 (S__law_same : FS) : TSt := sSq (sIf (tOo (tTs (tBin oNe (tIsi "list" (tVr 0)) (tIsi "list" (tVr 1)))) (tTs (tBin oNe (tIsi "tuple" (tVr 0)) (tIsi "tuple" (tVr 1))))) (rd__law_same_0a_0a_0 S__law_same) sNx) (rd__law_same_0a_1 S__law_same)
def rd__law_same_1a_0 (S__law_same : FS) : TSt := (sRt (tBin oIsN (tVr 0) (tKc .non)))
def rd__law_same_2a_0 (S__law_same : FS) : TSt := (sRt (tAnV (tBin oEq (tIsi "bool" (tVr 0)) (tIsi "bool" (tVr 1))) (tAnV (tBin oEq (tIsi "str" (tVr 0)) (tIsi "str" (tVr 1))) (tBin oEq (tVr 0) (tVr 1)))))
def rd__law_same_3 (S__law_same : FS) : TSt := (sRt (tAnV (tIsi "int" (tVr 0)) (tAnV (tNoV (tIsi "bool" (tVr 0))) (tBin oEq (tVr 0) (tVr 1)))))
def rd__law_same_2 (S__law_same : FS) : TSt := sSq (sIf (tTs (tIsi2 "bool" "str" (tVr 1))) (rd__law_same_2a_0 S__law_same) sNx) (rd__law_same_3 S__law_same)
def rd__law_same_1 (S__law_same : FS) : TSt := sSq (sIf (tTs (tBin oIsN (tVr 1) (tKc .non))) (rd__law_same_1a_0 S__law_same) sNx) (rd__law_same_2 S__law_same)
def rd__law_same_0 (S__law_same : FS) : TSt := sSq (sIf (tTs (tIsi2 "list" "tuple" (tVr 1))) (rd__law_same_0a_0 S__law_same) sNx) (rd__law_same_1 S__law_same)
theorem sem__law_same (n : Nat) (S : FS) (hS : ∀ m, m + 1 = n → S = S__law_sameN m) (ds : List D) (R : D → Prop) (h : S__law_sameN n ds R) : rd__law_same_0 S ⟨fun _ => R .non, fun x _ => R x, fun _ => False, fun _ => False⟩ (stE ["got", "due", "mine", "its"] ds) := by
  unfold S__law_sameN at h
  split at h <;> first | exact h.elim | skip
  rename_i x y
  obtain ⟨hx, hy, h⟩ := h
  have hf : x ≠ y → R (.bl false) := fun z => h false (by simp [z])
  cases n with
  | zero =>
    cases y <;> first | exact hy.elim | skip
    all_goals (cases x <;> first | exact hx.elim | skip)
    all_goals (unfold rd__law_same_0 rd__law_same_0a_0 rd__law_same_0a_0a_0 rd__law_same_0a_1 rd__law_same_1 rd__law_same_1a_0 rd__law_same_2 rd__law_same_2a_0 rd__law_same_3; walk_at "tq")
    all_goals first | exact hf (by simp) | exact h _ (by simp) | (simp only [decide_eq_true_eq, decide_true, decide_false, Bool.true_eq_false, Bool.false_eq_true, reduceCtorEq]; walk_at "tq"; first | exact hf (by simp) | exact h _ (by simp)) | skip
  | succ m =>
    have e := hS m rfl
    subst e
    cases y <;> first | exact hy.elim | skip
    all_goals (cases x <;> first | exact hx.elim | skip)
    all_goals (unfold rd__law_same_0 rd__law_same_0a_0 rd__law_same_0a_0a_0 rd__law_same_0a_1 rd__law_same_1 rd__law_same_1a_0 rd__law_same_2 rd__law_same_2a_0 rd__law_same_3; walk_at "tq")
    all_goals first | exact hf (by simp) | exact h _ (by simp) | (simp only [decide_eq_true_eq, decide_true, decide_false, Bool.true_eq_false, Bool.false_eq_true, reduceCtorEq]; walk_at "tq"; first | exact hf (by simp) | exact h _ (by simp)) | skip
    · rename_i ys xs
      refine ⟨fun z => ?_, fun z => hf (by rintro e; cases e; exact z rfl)⟩
      have ll : xs.length = ys.length := by omega
      refine ⟨by unfold zpD; rw [List.length_map, List.length_zip]; have := hx.1; omega, ?_⟩
      refine lc_inv (fun i acc E => E = [.d (.tup xs), .d (.tup ys), .no, .no] ∧ ∃ bs : List Bool, acc = bs.map D.bl ∧ (bs.all id = true ↔ xs.take i = ys.take i)) ⟨rfl, [], rfl, by simp⟩ ?_ ?_
      · rintro i w acc E KK hw ⟨rfl, bs, rfl, hb⟩ hK
        obtain ⟨a, b, ha, hb', rfl⟩ := zpD_get hw
        walk_at "tq"
        simp only [tYs, S__law_sameN]; walk_at "tq"
        refine ⟨hx.2 a (List.mem_of_getElem? ha), hy.2 b (List.mem_of_getElem? hb'), fun c hc => hK _ _ ⟨rfl, bs ++ [c], by simp, ?_⟩⟩
        rw [List.take_succ, List.take_succ, ha, hb', List.all_append, Bool.and_eq_true, hb]
        simp only [List.all_cons, List.all_nil, Bool.and_true, id, Option.toList_some, hc]
        have l1 : (xs.take i).length = (ys.take i).length := by rw [List.length_take, List.length_take, ll]
        constructor
        · rintro ⟨e1, e2⟩; rw [e1, e2]
        · intro e
          have := List.append_inj e l1
          exact ⟨this.1, by simpa using this.2⟩
      · rintro acc E ⟨rfl, bs, rfl, hb⟩
        have el : (zpD xs ys).length = xs.length := by unfold zpD; rw [List.length_map, List.length_zip]; omega
        rw [el, List.take_length, ll, List.take_length] at hb
        exact ⟨bs, rfl, h _ (by rw [hb, D.tup.injEq])⟩
    · rename_i ys xs
      refine ⟨fun z => ?_, fun z => hf (by rintro e; cases e; exact z rfl)⟩
      have ll : xs.length = ys.length := by omega
      refine ⟨by unfold zpD; rw [List.length_map, List.length_zip]; have := hx.1; omega, ?_⟩
      refine lc_inv (fun i acc E => E = [.d (.lst xs), .d (.lst ys), .no, .no] ∧ ∃ bs : List Bool, acc = bs.map D.bl ∧ (bs.all id = true ↔ xs.take i = ys.take i)) ⟨rfl, [], rfl, by simp⟩ ?_ ?_
      · rintro i w acc E KK hw ⟨rfl, bs, rfl, hb⟩ hK
        obtain ⟨a, b, ha, hb', rfl⟩ := zpD_get hw
        walk_at "tq"
        simp only [tYs, S__law_sameN]; walk_at "tq"
        refine ⟨hx.2 a (List.mem_of_getElem? ha), hy.2 b (List.mem_of_getElem? hb'), fun c hc => hK _ _ ⟨rfl, bs ++ [c], by simp, ?_⟩⟩
        rw [List.take_succ, List.take_succ, ha, hb', List.all_append, Bool.and_eq_true, hb]
        simp only [List.all_cons, List.all_nil, Bool.and_true, id, Option.toList_some, hc]
        have l1 : (xs.take i).length = (ys.take i).length := by rw [List.length_take, List.length_take, ll]
        constructor
        · rintro ⟨e1, e2⟩; rw [e1, e2]
        · intro e
          have := List.append_inj e l1
          exact ⟨this.1, by simpa using this.2⟩
      · rintro acc E ⟨rfl, bs, rfl, hb⟩
        have el : (zpD xs ys).length = xs.length := by unfold zpD; rw [List.length_map, List.length_zip]; omega
        rw [el, List.take_length, ll, List.take_length] at hb
        exact ⟨bs, rfl, h _ (by rw [hb, D.lst.injEq])⟩
def S__law_same : FS := S__law_sameN 8

theorem len_of__law_same {n : Nat} {ds : List D} {R : D → Prop} (h : S__law_sameN n ds R) : ds.length = 2 := by
  unfold S__law_sameN at h
  first | exact h.elim | (split at h <;> first | rfl | exact h.elim)
/-! _law_rule -/
def S__law_rule : MS := fun z ds R => match ds with
  | [.int w] => 1 ≤ w ∧ w ≤ 1000 ∧ ∃ n : Nat, n < 2 ^ 39 ∧ TinOk n z ∧ ∀ (p q : Int) (z' : D), -w ≤ p → p ≤ w → -w ≤ q → q ≤ w → q ≠ 0 → TinOk (n + 3) z' → R (rl p q) z'
  | _ => False
def rd__law_rule_1 : TSt := (sRt (tTu (aCons (tBin oSub (tClM 0 S__law_take (aCons (tBin oAdd (tBin oMul (tKc (.int 2)) (tVr 1)) (tKc (.int 1))) aNil)) (tVr 1)) (aCons (tIfE (tTs (tBin oEq (tClM 0 S__law_take (aCons (tKc (.int 2)) aNil)) (tKc (.int 0)))) (tVr 2) (tBin oSub (tKc (.int 0)) (tVr 2))) aNil))))
def rd__law_rule_0 : TSt := sSq (sAs 2 (tBin oAdd (tKc (.int 1)) (tClM 0 S__law_take (aCons (tVr 1) aNil)))) rd__law_rule_1
theorem sem__law_rule (z : D) (ds : List D) (R : D → D → Prop) (h : S__law_rule z ds R) : rd__law_rule_0 ⟨fun E => match gt E 0 with | .o z' => R .non z' | _ => False, fun x E => match gt E 0 with | .o z' => R x z' | _ => False, fun _ => False, fun _ => False⟩ (stM ["tin", "wide_so", "q"] z ds) := by
  unfold S__law_rule at h
  split at h <;> first | exact h.elim | skip
  rename_i w
  obtain ⟨w1, w2, n, n1, tz, h⟩ := h
  unfold rd__law_rule_0; walk_at "tq"
  simp only [S__law_take]; walk_at "tq"
  refine ⟨by omega, by omega, n, by omega, tz, fun a z1 a0 a1 tz1 => ?_⟩
  unfold rd__law_rule_1; walk_at "tq"
  simp only [S__law_take]; walk_at "tq"
  refine ⟨.l (by decide), by omega, by omega, n + 1, by omega, tz1, fun b z2 b0 b1 tz2 => ⟨by decide, by decide, n + 2, by omega, tz2, fun c z3 c0 c1 tz3 => ⟨fun e => ?_, fun e => ?_⟩⟩⟩
  · exact h _ _ _ (by omega) (by omega) (by omega) (by omega) (by omega) tz3
  · exact h _ _ _ (by omega) (by omega) (by omega) (by omega) (by omega) tz3

theorem len_of__law_rule {z : D} {ds : List D} {R : D → D → Prop} (h : S__law_rule z ds R) : ds.length + 1 = 2 := by
  unfold S__law_rule at h
  first | exact h.elim | (split at h <;> first | rfl | exact h.elim)
/-! _law_us -/
def S__law_us : FS := fun ds R => match ds with
  | [.tup [.int p, .int q], .int n] => Wd p ∧ Wd q ∧ 0 ≤ n ∧ n ≤ 100000 ∧ R (.lst (trD p q ("u" : Str) n.toNat))
  | _ => False
def rd__law_us_1f_0 : TSt := (sAp 2 (tBin oSub (tBin oMul (tSeen 0 (tKc (.int 0))) (tSeen 2 (tUnr oNeg (tKc (.int 1))))) (tBin oMul (tSeen 0 (tKc (.int 1))) (tSeen 2 (tUnr oNeg (tKc (.int 2)))))))
def rd__law_us_2 : TSt := (sRt (tSlc (tVr 2) qNo (qSo (tVr 1))))
def rd__law_us_1 : TSt := sSq (tFo (iR1 (aCons (tVr 1) aNil)) (gNm 3) rd__law_us_1f_0) rd__law_us_2
def rd__law_us_0 : TSt := sSq (sAo 2 (tLi (aCons (tKc (.int 0)) (aCons (tKc (.int 1)) aNil)))) rd__law_us_1
theorem sem__law_us (ds : List D) (R : D → Prop) (h : S__law_us ds R) : rd__law_us_0 ⟨fun _ => R .non, fun x _ => R x, fun _ => False, fun _ => False⟩ (stE ["rule_so", "many_so", "found", "lap"] ds) := by
  unfold S__law_us at h
  split at h <;> first | exact h.elim | skip
  rename_i p q n
  obtain ⟨wp, wq, n0, n1, h⟩ := h
  unfold rd__law_us_0; walk_at "tq"
  unfold rd__law_us_1; walk_at "tq"
  refine ⟨⟨by omega, by omega⟩, ?_⟩
  refine for_rg (fun i E => ∃ c, E = [.d (.tup [.int p, .int q]), .d (.int n), .o (.lst (trD p q ("u" : Str) (i + 2))), c]) ⟨.no, ?_⟩ ?_ ?_
  · simp [trD, trW, List.range_succ, TM.U]
  · rintro i E KK hi ⟨c, rfl⟩ hK
    walk_at "tq"
    unfold rd__law_us_1f_0; walk_at "tq"
    rw [trD_two]; walk_at "tq"
    refine ⟨.l wp, .l wq, by rw [List.length_append, trD_len]; simp; omega, ?_⟩
    rw [← trW_ss, ← trD_two, ← trD_s]
    exact hK _ ⟨_, rfl⟩
  · rintro E ⟨c, rfl⟩
    unfold rd__law_us_2; walk_at "tq"
    rw [cutD_to _ n0, trD_take p q _ (by omega)]
    exact h

theorem len_of__law_us {ds : List D} {R : D → Prop} (h : S__law_us ds R) : ds.length = 2 := by
  unfold S__law_us at h
  first | exact h.elim | (split at h <;> first | rfl | exact h.elim)
/-! _law_first -/
/-- the first place to a bound, or 0 -/
def FstAt (p q : Int) (m t r : Nat) : Prop := (r = 0 ∧ ∀ k, 0 < k → k ≤ t → ¬ TM.Dv p q m k) ∨ (0 < r ∧ r ≤ t ∧ TM.Dv p q m r ∧ ∀ k, 0 < k → k < r → ¬ TM.Dv p q m k)
def S__law_first : FS := fun ds R => match ds with
  | [.tup [.int p, .int q], .int m, .int t] => Wd p ∧ Wd q ∧ 0 < m ∧ 0 ≤ t ∧ t < 2 ^ 60 ∧ ∀ r : Nat, FstAt p q m.toNat t.toNat r → R (.int r)
  | _ => False
def rd__law_first_1f_0a_0 : TSt := (sRt (tVr 5))
def rd__law_first_1f_1 : TSt := (sPr 3 4 (aCons (tVr 4) (aCons (tBin oMod (tBin oSub (tBin oMul (tSeen 0 (tKc (.int 0))) (tVr 4)) (tBin oMul (tSeen 0 (tKc (.int 1))) (tVr 3))) (tVr 1)) aNil)))
def rd__law_first_1f_0 : TSt := sSq (sIf (tTs (tBin oEq (tVr 3) (tKc (.int 0)))) rd__law_first_1f_0a_0 sNx) rd__law_first_1f_1
def rd__law_first_2 : TSt := (sRt (tKc (.int 0)))
def rd__law_first_1 : TSt := sSq (tFo (iR2 (aCons (tKc (.int 1)) (aCons (tBin oAdd (tVr 2) (tKc (.int 1))) aNil))) (gNm 5) rd__law_first_1f_0) rd__law_first_2
def rd__law_first_0 : TSt := sSq (sPr 3 4 (aCons (tBin oMod (tKc (.int 1)) (tVr 1)) (aCons (tBin oMod (tSeen 0 (tKc (.int 0))) (tVr 1)) aNil))) rd__law_first_1
theorem sem__law_first (ds : List D) (R : D → Prop) (h : S__law_first ds R) : rd__law_first_0 ⟨fun _ => R .non, fun x _ => R x, fun _ => False, fun _ => False⟩ (stE ["rule_so", "under_so", "most_so", "near", "far", "place_so"] ds) := by
  unfold S__law_first at h
  split at h <;> first | exact h.elim | skip
  rename_i p q m t
  obtain ⟨wp, wq, m0, t0, t1, h⟩ := h
  unfold rd__law_first_0; walk_at "tq"
  refine ⟨m0, m0, ?_⟩
  unfold rd__law_first_1; walk_at "tq"
  refine ⟨⟨by decide, by decide, by omega, by omega⟩, ?_⟩
  rw [show (t + 1 - 1).toNat = t.toNat by omega]
  refine for_rg (fun i E => ∃ c, E = [.d (.tup [.int p, .int q]), .d (.int m), .d (.int t), .d (.int (urest p q (i + 1) m)), .d (.int (urest p q (i + 2) m)), c] ∧ ∀ k, 0 < k → k < i + 1 → ¬ TM.Dv p q m.toNat k) ⟨.no, ?_, fun k h1 h2 => by omega⟩ ?_ ?_
  · simp [urest, TM.U]
  · rintro i E KK hi ⟨c, rfl, hn⟩ hK
    walk_at "tq"
    unfold rd__law_first_1f_0 rd__law_first_1f_0a_0; walk_at "tq"
    rw [ur_dv m0]
    refine ⟨fun z => ?_, fun z => ?_⟩
    · have := h (i + 1) (.inr ⟨by omega, by omega, z, hn⟩)
      rw [show (1 : Int) + (i : Nat) = ((i + 1 : Nat) : Int) by omega]
      exact this
    · unfold rd__law_first_1f_1; walk_at "tq"
      refine ⟨.l wp, .l wq, m0, ?_⟩
      rw [pm_next]
      refine hK _ ⟨_, rfl, fun k h1 h2 => ?_⟩
      by_cases e : k = i + 1
      · rw [e]; exact z
      · exact hn k h1 (by omega)
  · rintro E ⟨c, rfl, hn⟩
    unfold rd__law_first_2; walk_at "tq"
    exact h 0 (.inl ⟨rfl, fun k h1 h2 => hn k h1 (by omega)⟩)

theorem len_of__law_first {ds : List D} {R : D → Prop} (h : S__law_first ds R) : ds.length = 3 := by
  unfold S__law_first at h
  first | exact h.elim | (split at h <;> first | rfl | exact h.elim)
/-! power_mod -/
def S_power_mod : FS := fun ds R => match ds with
  | [.int a, .int n, .int m] => 0 < m ∧ m < 2 ^ 200 ∧ 0 ≤ n ∧ R (.int (a ^ n.toNat % m))
  | _ => False
def rd_power_mod_1w_0a_0 : TSt := (sAs 3 (tBin oMod (tBin oMul (tVr 3) (tVr 4)) (tVr 2)))
def rd_power_mod_1w_1 : TSt := (sPr 4 5 (aCons (tBin oMod (tBin oMul (tVr 4) (tVr 4)) (tVr 2)) (aCons (tBin oDiv (tVr 5) (tKc (.int 2))) aNil)))
def rd_power_mod_1w_0 : TSt := sSq (sIf (tTs (tBin oEq (tBin oMod (tVr 5) (tKc (.int 2))) (tKc (.int 1)))) rd_power_mod_1w_0a_0 sNx) rd_power_mod_1w_1
def rd_power_mod_2 : TSt := (sRt (tVr 3))
def rd_power_mod_1 : TSt := sSq (tWh (tTs (tBin oGt (tVr 5) (tKc (.int 0)))) rd_power_mod_1w_0) rd_power_mod_2
def rd_power_mod_0 : TSt := sSq (sPr3 3 4 5 (aCons (tBin oMod (tKc (.int 1)) (tVr 2)) (aCons (tBin oMod (tVr 0) (tVr 2)) (aCons (tVr 1) aNil)))) rd_power_mod_1
theorem pow_odd (m f h : Int) (k : Nat) : (f * h % m) * (h * h % m) ^ k % m = f * h ^ (2 * k + 1) % m := by
  apply em_eq
  have h1 := dvd_em (f * h) m
  have h2 := TM.dvd_pow_sub (dvd_em (h * h) m) k
  obtain ⟨a, ha⟩ := h1
  obtain ⟨b, hb⟩ := h2
  have e : h ^ (2 * k + 1) = h * (h * h) ^ k := by rw [Int.pow_succ, Int.pow_mul, Int.pow_succ, Int.pow_succ, Int.pow_zero, Int.one_mul, Int.mul_comm]
  rw [e]
  exact ⟨-a * (h * h % m) ^ k - f * h * b, by grind⟩
theorem pow_even (m f h : Int) (k : Nat) : f * (h * h % m) ^ k % m = f * h ^ (2 * k) % m := by
  apply em_eq
  obtain ⟨b, hb⟩ := TM.dvd_pow_sub (dvd_em (h * h) m) k
  have e : h ^ (2 * k) = (h * h) ^ k := by rw [Int.pow_mul, Int.pow_succ, Int.pow_succ, Int.pow_zero, Int.one_mul]
  rw [e]
  exact ⟨- f * b, by grind⟩
theorem sem_power_mod (ds : List D) (R : D → Prop) (h : S_power_mod ds R) : rd_power_mod_0 ⟨fun _ => R .non, fun x _ => R x, fun _ => False, fun _ => False⟩ (stE ["one", "often", "modulus", "found", "here", "left"] ds) := by
  unfold S_power_mod at h
  split at h <;> first | exact h.elim | skip
  rename_i a n m
  obtain ⟨m0, m1, n0, h⟩ := h
  have sm : Sz 200 m := .of (by have : (0 : Int) ≤ 2 ^ 200 := by decide
                                omega) m1
  unfold rd_power_mod_0; walk_at "tq"
  refine ⟨m0, m0, ?_⟩
  unfold rd_power_mod_1; walk_at "tq"
  refine ⟨fun w E => ∃ (k : Nat) (f g : Int), w = k ∧ E = [.d (.int a), .d (.int n), .d (.int m), .d (.int f), .d (.int g), .d (.int k)] ∧ Sz 200 f ∧ Sz 200 g ∧ f % m = f ∧ f * g ^ k % m = a ^ n.toNat % m, ⟨_, n.toNat, 1 % m, a % m, rfl, by rw [Int.toNat_of_nonneg n0], Sz.mod sm m0, Sz.mod sm m0, Int.emod_emod_of_dvd _ (Int.dvd_refl m), ?_⟩, ?_⟩
  · apply em_eq
    obtain ⟨b, hb⟩ := TM.dvd_pow_sub (dvd_em a m) n.toNat
    obtain ⟨c, hc⟩ := dvd_em 1 m
    exact ⟨- c * (a % m) ^ n.toNat - b, by grind⟩
  rintro w E ⟨k, f, g, rfl, rfl, sf, sg, fm, e⟩
  walk_at "tq"
  refine ⟨fun z => ?_, fun z => ?_⟩
  · have w0 : 0 < w := by omega
    have c2 : CDivW (w : Int) 2 := cdw (by decide) (by decide)
    have e2 : (w : Int) / 2 = ((w / 2 : Nat) : Int) := by rw [Int.natCast_ediv]; rfl
    unfold rd_power_mod_1w_0 rd_power_mod_1w_0a_0; walk_at "tq"
    refine ⟨by decide, fun y => ⟨.sz sf sg, m0, ?_⟩, fun y => ?_⟩
    · unfold rd_power_mod_1w_1; walk_at "tq"
      refine ⟨.sz sg sg, m0, c2, w / 2, by omega, w / 2, f * g % m, g * g % m, rfl, by rw [e2], Sz.mod sm m0, Sz.mod sm m0, Int.emod_emod_of_dvd _ (Int.dvd_refl m), ?_⟩
      rw [pow_odd, show 2 * (w / 2) + 1 = w by omega]
      exact e
    · unfold rd_power_mod_1w_1; walk_at "tq"
      refine ⟨.sz sg sg, m0, c2, w / 2, by omega, w / 2, f, g * g % m, rfl, by rw [e2], sf, Sz.mod sm m0, fm, ?_⟩
      rw [pow_even, show 2 * (w / 2) = w by omega]
      exact e
  · have w0 : w = 0 := by omega
    subst w0
    rw [Int.pow_zero, Int.mul_one, fm] at e
    unfold rd_power_mod_2; walk_at "tq"
    rw [e]
    exact h

theorem len_of_power_mod {ds : List D} {R : D → Prop} (h : S_power_mod ds R) : ds.length = 3 := by
  unfold S_power_mod at h
  first | exact h.elim | (split at h <;> first | rfl | exact h.elim)
/-! step_order -/
def S_step_order : FS := fun ds R => match ds with
  | [.int l, .int e] => 2 ≤ l ∧ l < 2 ^ 60 ∧ 1 ≤ e ∧ e ≤ 1000 ∧ R (.int (((l.toNat - 1) * l.toNat ^ (e.toNat - 1) : Nat)))
  | _ => False
def rd_step_order_1f_0 : TSt := (sAs 2 (tBin oMul (tVr 2) (tVr 0)))
def rd_step_order_2 : TSt := (sRt (tVr 2))
def rd_step_order_1 : TSt := sSq (tFo (iR1 (aCons (tBin oSub (tVr 1) (tKc (.int 1))) aNil)) (gNm 3) rd_step_order_1f_0) rd_step_order_2
def rd_step_order_0 : TSt := sSq (sAs 2 (tBin oSub (tVr 0) (tKc (.int 1)))) rd_step_order_1
theorem sem_step_order (ds : List D) (R : D → Prop) (h : S_step_order ds R) : rd_step_order_0 ⟨fun _ => R .non, fun x _ => R x, fun _ => False, fun _ => False⟩ (stE ["prime", "often", "found", "lap"] ds) := by
  unfold S_step_order at h
  split at h <;> first | exact h.elim | skip
  rename_i l e
  obtain ⟨l2, l60, e1, e2, h⟩ := h
  obtain ⟨l, rfl⟩ : ∃ x : Nat, l = x := ⟨l.toNat, by omega⟩
  rw [Int.toNat_natCast] at h
  unfold rd_step_order_0; walk_at "tq"
  unfold rd_step_order_1; walk_at "tq"
  refine ⟨⟨by omega, by omega⟩, ?_⟩
  refine for_rg (fun i E => ∃ c, E = [.d (.int (l : Nat)), .d (.int e), .d (.int (((l - 1) * l ^ i : Nat) : Int)), c]) ⟨.no, ?_⟩ ?_ ?_
  · rw [Nat.pow_zero, Nat.mul_one, show ((l - 1 : Nat) : Int) = (l : Int) - 1 by omega]
  · rintro i E KK hi ⟨c, rfl⟩ hK
    walk_at "tq"
    unfold rd_step_order_1f_0; walk_at "tq"
    refine ⟨.r ⟨by omega, by omega⟩, ?_⟩
    rw [← Int.natCast_mul, Nat.mul_assoc, ← Nat.pow_succ]
    exact hK _ ⟨_, rfl⟩
  · rintro E ⟨c, rfl⟩
    unfold rd_step_order_2; walk_at "tq"
    rw [show (e - 1).toNat = e.toNat - 1 by omega]
    exact h

theorem len_of_step_order {ds : List D} {R : D → Prop} (h : S_step_order ds R) : ds.length = 2 := by
  unfold S_step_order at h
  first | exact h.elim | (split at h <;> first | rfl | exact h.elim)
/-! order_in -/
def S_order_in : FS := fun ds R => match ds with
  | [.int a, .int m] => 1 ≤ m ∧ m ≤ 1000000000 ∧ TM.Cop m.toNat a ∧ ∀ r : Nat, TM.IsOrd a m.toNat r → r ≤ m.toNat → R (.int r)
  | _ => False
def rd_order_in_1f_0 : TSt := (sAs 2 (tCl S_lcm (aCons (tVr 2) (aCons (tCl S_step_order (aCons (tVr 3) (aCons (tVr 4) aNil))) aNil))))
def rd_order_in_2f_0w_0 : TSt := (sAs 2 (tBin oDiv (tVr 2) (tVr 3)))
def rd_order_in_2f_0 : TSt := (tWh (tAn (tTs (tBin oEq (tBin oMod (tVr 2) (tVr 3)) (tKc (.int 0)))) (tTs (tBin oEq (tCl S_power_mod (aCons (tVr 0) (aCons (tBin oDiv (tVr 2) (tVr 3)) (aCons (tVr 1) aNil)))) (tBin oMod (tKc (.int 1)) (tVr 1))))) rd_order_in_2f_0w_0)
def rd_order_in_3 : TSt := (sRt (tVr 2))
def rd_order_in_2 : TSt := sSq (tFo (iTp (tCl S_primes_of (aCons (tVr 2) aNil))) (gTp 2 (gCn (gNm 3) (gCn (gNm 4) gNl))) rd_order_in_2f_0) rd_order_in_3
def rd_order_in_1 : TSt := sSq (tFo (iTp (tCl S_primes_of (aCons (tVr 1) aNil))) (gTp 2 (gCn (gNm 3) (gCn (gNm 4) gNl))) rd_order_in_1f_0) rd_order_in_2
def rd_order_in_0 : TSt := sSq (sAs 2 (tKc (.int 1))) rd_order_in_1
theorem em_one {a m : Int} {n : Nat} : a ^ n % m = 1 % m ↔ m ∣ a ^ n - 1 :=
  ⟨fun e => Int.dvd_of_emod_eq_zero (Int.emod_eq_emod_iff_emod_sub_eq_zero.mp e), em_eq⟩
theorem fac_split {n i : Nat} {L : List (Nat × Nat)} {y : Nat × Nat} (hL : TM.IsFac n L) (e : L[i]? = some y) : TM.prodF (L.take (i + 1)) = TM.prodF (L.take i) * y.1 ^ y.2 ∧ Nat.Coprime (TM.prodF (L.take i)) (y.1 ^ y.2) ∧ TM.prodF (L.take i) * y.1 ^ y.2 ≤ n ∧ 1 ≤ TM.prodF (L.take i) := by
  obtain ⟨l, j⟩ := y
  have eP : TM.prodF (L.take (i + 1)) = TM.prodF (L.take i) * l ^ j := by
    rw [List.take_succ, e, TM.prodF_append]
    simp [TM.prodF]
  have split : L = L.take i ++ (l, j) :: L.drop (i + 1) := by
    have il := (List.getElem?_eq_some_iff.mp e).1
    have := (List.take_append_drop i L).symm
    rw [List.drop_eq_getElem_cons il, (List.getElem?_eq_some_iff.mp e).2] at this
    exact this
  refine ⟨eP, (split ▸ hL).coprime, ?_, TM.prodF_pos fun x hx => hL.pr x (List.mem_of_mem_take hx)⟩
  have := congrArg TM.prodF split
  rw [TM.prodF_append, hL.prod] at this
  rw [this]
  show _ ≤ TM.prodF (L.take i) * (l ^ j * TM.prodF (L.drop (i + 1)))
  rw [← Nat.mul_assoc]
  exact Nat.le_mul_of_pos_right _ (TM.prodF_pos fun x hx => hL.pr x (List.mem_of_mem_drop hx))
theorem sem_order_in (ds : List D) (R : D → Prop) (h : S_order_in ds R) : rd_order_in_0 ⟨fun _ => R .non, fun x _ => R x, fun _ => False, fun _ => False⟩ (stE ["one", "modulus", "often", "prime", "many"] ds) := by
  unfold S_order_in at h
  split at h <;> first | exact h.elim | skip
  rename_i a m
  obtain ⟨m1, m9, co, h⟩ := h
  unfold rd_order_in_0; walk_at "tq"
  unfold rd_order_in_1; walk_at "tq"
  simp only [S_primes_of]; walk_at "tq"
  refine ⟨m1, by omega, fun L hL => ?_⟩
  refine for_inv (fun i E => ∃ (o : Nat) (c d : Sl), E = [.d (.int a), .d (.int m), .d (.int o), c, d] ∧ 0 < o ∧ o ≤ TM.prodF (L.take i) ∧ ((TM.prodF (L.take i) : Nat) : Int) ∣ a ^ o - 1) ⟨1, .no, .no, rfl, by decide, Nat.le_refl 1, ⟨a ^ 1 - 1, by simp [TM.prodF]⟩⟩ ?_ ?_
  · rintro i x E KK hx ⟨o, c, d, rfl, o0, ol, od⟩ hK
    unfold facD at hx
    rw [List.getElem?_map] at hx
    cases e : L[i]? with
    | none => rw [e] at hx; cases hx
    | some y =>
      rw [e] at hx
      cases hx
      obtain ⟨eP, cop, Ple, P1⟩ := fac_split hL e
      obtain ⟨l, j⟩ := y
      have ym := List.mem_of_getElem? e
      have yp := (hL.pr _ ym).1
      have j1 : 1 ≤ j := (hL.pr _ ym).2
      have l2 : 2 ≤ l := yp.two_le
      have pd := hL.mem_dvd ym
      have ps := Nat.le_of_dvd (by omega) pd
      have ldp : l ∣ l ^ j := by have := Nat.pow_dvd_pow l j1; rwa [Nat.pow_one] at this
      have ldm : l ∣ m.toNat := Nat.dvd_trans ldp pd
      have lm := Nat.le_of_dvd (by omega) ldm
      have na : ¬ (l : Int) ∣ a := fun z => by
        have := Nat.dvd_gcd ldm (Int.ofNat_dvd_left.mp z)
        rw [co] at this
        have := Nat.le_of_dvd (by decide) this
        omega
      have j30 : j ≤ 30 := by
        apply Nat.le_of_not_lt
        intro z
        have h1 : 2 ^ 31 ≤ 2 ^ j := Nat.pow_le_pow_right (by decide) (by omega)
        have h2 : 2 ^ j ≤ l ^ j := Nat.pow_le_pow_left l2 j
        omega
      simp only []
      walk_at "tq"
      unfold rd_order_in_1f_0; walk_at "tq"
      simp only [S_step_order, S_lcm, Int.toNat_natCast]
      have st0 : 0 < (l - 1) * l ^ (j - 1) := Nat.mul_pos (by omega) (Nat.pow_pos (by omega))
      have stl : (l - 1) * l ^ (j - 1) ≤ l ^ j := by
        have : l ^ j = l * l ^ (j - 1) := by rw [Nat.mul_comm, ← Nat.pow_succ]; congr 1; omega
        rw [this]
        exact Nat.mul_le_mul_right _ (by omega)
      have b4 : ∀ {x : Nat}, x ≤ m.toNat → Sz 4000 (x : Int) := fun {x} h1 => by
        have h5 : Sz 60 (x : Int) := by unfold Sz; rw [Int.natAbs_natCast]; omega
        exact h5.mono (by decide)
      have P1' : TM.prodF (L.take i) ≤ m.toNat := Nat.le_trans (Nat.le_mul_of_pos_right _ (Nat.pow_pos (by omega))) Ple
      have eu := TM.euler_pow yp na (j - 1)
      rw [show j - 1 + 1 = j by omega] at eu
      refine ⟨by omega, by omega, by omega, by omega, by omega, by omega, b4 (by omega), b4 (by omega), hK _ ⟨Nat.lcm o ((l - 1) * l ^ (j - 1)), _, _, rfl, Nat.lcm_pos o0 st0, ?_, ?_⟩⟩
      · rw [eP]
        exact Nat.le_trans (Nat.le_of_dvd (Nat.mul_pos o0 st0) (Nat.lcm_dvd_mul _ _)) (Nat.mul_le_mul ol stl)
      · rw [eP]
        exact TM.cop_dvd_prod cop (TM.one_dvd od (Nat.dvd_lcm_left _ _)) (TM.one_dvd eu (Nat.dvd_lcm_right _ _))
  · rintro E ⟨o, c, d, rfl, o0, ol, od⟩
    have el : (facD L).length = L.length := by simp [facD]
    rw [el, List.take_length, hL.prod] at ol od
    clear el hL
    have em : ((m.toNat : Nat) : Int) = m := Int.toNat_of_nonneg (by omega)
    unfold rd_order_in_2; walk_at "tq"
    simp only [S_primes_of]; walk_at "tq"
    refine ⟨by omega, by omega, fun L hL => ?_⟩
    rw [Int.toNat_natCast] at hL
    refine for_inv (fun i E => ∃ (f : Nat) (c d : Sl), E = [.d (.int a), .d (.int m), .d (.int f), c, d] ∧ 0 < f ∧ f ∣ o ∧ ((m.toNat : Nat) : Int) ∣ a ^ f - 1 ∧ ∀ x ∈ L.take i, x.1 ∣ f → ¬ ((m.toNat : Nat) : Int) ∣ a ^ (f / x.1) - 1) ⟨o, c, d, rfl, o0, Nat.dvd_refl _, od, by simp⟩ ?_ ?_
    · rintro i x E KK hx ⟨f, c, d, rfl, f0, fb, fd, hf⟩ hK
      unfold facD at hx
      rw [List.getElem?_map] at hx
      cases e : L[i]? with
      | none => rw [e] at hx; cases hx
      | some y =>
        rw [e] at hx
        cases hx
        have ym := List.mem_of_getElem? e
        have yp := (hL.pr y ym).1
        have y2 := yp.two_le
        have ydb : y.1 ∣ o := by
          have h1 := hL.mem_dvd (l := y.1) (e := y.2) ym
          have h2 := Nat.pow_dvd_pow y.1 (hL.pr y ym).2
          rw [Nat.pow_one] at h2
          exact Nat.dvd_trans h2 h1
        have yb := Nat.le_of_dvd (by omega) ydb
        simp only []
        walk_at "tq"
        unfold rd_order_in_2f_0; walk_at "tq"
        refine ⟨fun n E => ∃ (f : Nat), n = f ∧ E = [.d (.int a), .d (.int m), .d (.int f), .d (.int (y.1 : Nat)), .d (.int (y.2 : Nat))] ∧ 0 < f ∧ f ∣ o ∧ ((m.toNat : Nat) : Int) ∣ a ^ f - 1 ∧ ∀ x ∈ L.take i, x.1 ∣ f → ¬ ((m.toNat : Nat) : Int) ∣ a ^ (f / x.1) - 1, ⟨_, f, rfl, rfl, f0, fb, fd, hf⟩, ?_⟩
        rintro n E ⟨f, rfl, rfl, f0, fb, fd, hf⟩
        have nb := Nat.le_of_dvd (by omega) fb
        walk_at "tq"
        simp only [S_power_mod]
        have fin : ¬ (y.1 ∣ n ∧ ((m.toNat : Nat) : Int) ∣ a ^ (n / y.1) - 1) → KK [.d (.int a), .d (.int m), .d (.int n), .d (.int (y.1 : Nat)), .d (.int (y.2 : Nat))] := fun z => by
          refine hK _ ⟨n, _, _, rfl, f0, fb, fd, fun x hx hxd hdv => ?_⟩
          rw [List.take_succ, e] at hx
          rcases List.mem_append.mp hx with w | w
          · exact hf x w hxd hdv
          · simp at w
            subst w
            exact z ⟨hxd, hdv⟩
        have eN : ((n : Int) / (y.1 : Nat)).toNat = n / y.1 := by rw [← Int.natCast_ediv, Int.toNat_natCast]
        have eL : ((n : Int) / (y.1 : Nat)) = ((n / y.1 : Nat) : Int) := by rw [← Int.natCast_ediv]
        have c1 : CDivW (n : Int) ((y.1 : Nat) : Int) := cdw (by omega) (by omega)
        refine ⟨by omega, fun z1 => ⟨c1, by omega, by omega, by omega, by omega, ?_⟩, fun z1 => ?_⟩
        · have z1' : y.1 ∣ n := Nat.dvd_of_mod_eq_zero (by omega)
          rw [eN]
          refine ⟨fun z2 => ?_, fun z2 => ?_⟩
          · rw [em_one] at z2
            unfold rd_order_in_2f_0w_0; walk_at "tq"
            refine ⟨c1, n / y.1, Nat.div_lt_self f0 (by omega), n / y.1, rfl, by rw [eL], Nat.div_pos (Nat.le_of_dvd f0 z1') (by omega), Nat.dvd_trans (Nat.div_dvd_of_dvd z1') fb, by rw [em]; exact z2, fun x hx hxd hdv => ?_⟩
            have xd : x.1 ∣ n := Nat.dvd_trans hxd (Nat.div_dvd_of_dvd z1')
            refine hf x hx xd (TM.one_dvd hdv ?_)
            obtain ⟨k, hk⟩ := hxd
            have xp := (hL.pr x (List.mem_of_mem_take hx)).1.pos
            have en : n = x.1 * (k * y.1) := by rw [← Nat.mul_assoc, ← hk, Nat.div_mul_cancel z1']
            rw [hk, Nat.mul_div_cancel_left _ xp]
            rw [show n / x.1 = k * y.1 by rw [en, Nat.mul_div_cancel_left _ xp]]
            exact ⟨y.1, rfl⟩
          · rw [em_one] at z2
            exact fin fun z => z2 (by have := z.2; rwa [em] at this)
        · refine fin fun z => z1 ?_
          have := Nat.mod_eq_zero_of_dvd z.1
          omega
    · rintro E ⟨f, c, d, rfl, f0, fb, fd, hf⟩
      unfold rd_order_in_3; walk_at "tq"
      have fo := Nat.le_of_dvd o0 fb
      refine h f (TM.IsOrd.of_primes co f0 fd fun x xp xd => ?_) (by omega)
      obtain ⟨e, he⟩ := hL.dvd_mem xp (Nat.dvd_trans xd fb)
      refine hf (x, e) ?_ xd
      have el : (facD L).length = L.length := by simp [facD]
      rw [el, List.take_length]
      exact he

theorem len_of_order_in {ds : List D} {R : D → Prop} (h : S_order_in ds R) : ds.length = 2 := by
  unfold S_order_in at h
  first | exact h.elim | (split at h <;> first | rfl | exact h.elim)
/-! sure_far -/
def FarOk (n m : Int) : Prop := 0 ≤ n ∧ n ≤ 1000000000000000000 ∧ 1 ≤ m ∧ m ≤ 1000000000000000000000000000000
def S_sure_far : FS := fun ds R => match ds with
  | [.int n, .int m] => FarOk n m ∧ R (.tup [.int n, .int m])
  | _ => False
theorem pm_far {p q n m : Int} (ro : RuleOk p q) (f : FarOk n m) : PmOk p q n m := by
  unfold RuleOk at ro
  obtain ⟨n0, n9, m1, m9⟩ := f
  have m4 : m < 2 ^ 400000 := by
    refine Int.lt_of_lt_of_le (b := 2 ^ 120) (by omega) ?_
    rw [show (400000 : Nat) = 120 + 399880 by decide, Int.pow_add]
    have h1 : (0 : Int) < 2 ^ 399880 := Int.pow_pos (by decide)
    generalize (2 : Int) ^ 399880 = Z at h1 ⊢
    omega
  exact ⟨by omega, by omega, by omega, by omega, n0, Int.lt_of_le_of_lt n9 (by decide), by omega, m4⟩
def rd_sure_far_1 : TSt := (sRt (tTu (aCons (tVr 2) (aCons (tCl S_sure_within (aCons (tVr 1) (aCons (tKc (.int 1)) (aCons (tKc (.int 1000000000000000000000000000000)) aNil)))) aNil))))
def rd_sure_far_0 : TSt := sSq (sAs 2 (tCl S_sure_within (aCons (tVr 0) (aCons (tKc (.int 0)) (aCons (tKc (.int 1000000000000000000)) aNil))))) rd_sure_far_1
theorem sem_sure_far (ds : List D) (R : D → Prop) (h : S_sure_far ds R) : rd_sure_far_0 ⟨fun _ => R .non, fun x _ => R x, fun _ => False, fun _ => False⟩ (stE ["number", "modulus", "own"] ds) := by
  unfold S_sure_far at h
  split at h <;> first | exact h.elim | skip
  rename_i n m
  obtain ⟨⟨n0, n9, m1, m9⟩, h⟩ := h
  unfold rd_sure_far_0; walk_at "tq"
  simp only [S_sure_within]
  refine ⟨n0, n9, ?_⟩
  unfold rd_sure_far_1; walk_at "tq"
  simp only [S_sure_within]
  exact ⟨m1, m9, h⟩

theorem len_of_sure_far {ds : List D} {R : D → Prop} (h : S_sure_far ds R) : ds.length = 2 := by
  unfold S_sure_far at h
  first | exact h.elim | (split at h <;> first | rfl | exact h.elim)
/-! sure_prime_to -/
def S_sure_prime_to : FS := fun ds R => match ds with
  | [.tup [.int p, .int q], .int m, .int t] => RuleOk p q ∧ 1 ≤ m ∧ m ≤ t ∧ TM.Cop m.toNat q ∧ R (.tup [rl p q, .int m])
  | _ => False
theorem gcd_one {m q : Int} (m1 : 1 ≤ m) (co : TM.Cop m.toNat q) : Int.gcd m q = 1 := by
  have : Int.gcd m q = Nat.gcd m.natAbs q.natAbs := rfl
  rw [this, show m.natAbs = m.toNat by omega]
  exact co
def rd_sure_prime_to_2a_0 : TSt := sNever
def rd_sure_prime_to_3 : TSt := (sRt (tTu (aCons (tVr 3) (aCons (tVr 4) aNil))))
def rd_sure_prime_to_2 : TSt := sSq (sIf (tTs (tBin oNe (tCl S_common (aCons (tVr 4) (aCons (tSeen 3 (tKc (.int 1))) aNil))) (tKc (.int 1)))) rd_sure_prime_to_2a_0 sNx) rd_sure_prime_to_3
def rd_sure_prime_to_1 : TSt := sSq (sAs 4 (tCl S_sure_within (aCons (tVr 1) (aCons (tKc (.int 1)) (aCons (tVr 2) aNil))))) rd_sure_prime_to_2
def rd_sure_prime_to_0 : TSt := sSq (sAs 3 (tCl S_sure_rule (aCons (tVr 0) aNil))) rd_sure_prime_to_1
theorem sem_sure_prime_to (ds : List D) (R : D → Prop) (h : S_sure_prime_to ds R) : rd_sure_prime_to_0 ⟨fun _ => R .non, fun x _ => R x, fun _ => False, fun _ => False⟩ (stE ["rule", "modulus", "most", "own", "under"] ds) := by
  unfold S_sure_prime_to at h
  split at h <;> first | exact h.elim | skip
  rename_i p q m t
  obtain ⟨ro, m1, mt, co, h⟩ := h
  unfold rd_sure_prime_to_0; walk_at "tq"
  simp only [S_sure_rule]
  refine ⟨ro, ?_⟩
  unfold rd_sure_prime_to_1; walk_at "tq"
  simp only [S_sure_within]
  refine ⟨m1, mt, ?_⟩
  unfold rd_sure_prime_to_2; walk_at "tq"
  simp only [S_common, rl]; walk_at "tq"
  rw [gcd_one m1 co]
  refine ⟨fun z => absurd rfl z, fun _ => ?_⟩
  unfold rd_sure_prime_to_3; walk_at "tq"
  exact h

theorem len_of_sure_prime_to {ds : List D} {R : D → Prop} (h : S_sure_prime_to ds R) : ds.length = 3 := by
  unfold S_sure_prime_to at h
  first | exact h.elim | (split at h <;> first | rfl | exact h.elim)
/-! first_place -/
def S_first_place : FS := fun ds R => match ds with
  | [.tup [.int p, .int q], .int m] => RuleOk p q ∧ 1 ≤ m ∧ m ≤ 1000000000 ∧ TM.Cop m.toNat q ∧ (∀ l, TM.Pr l → l ∣ m.toNat → JOk l) ∧ ∀ r : Nat, TM.IsRk p q m.toNat r → r ≤ m.toNat ^ 2 → R (.int r)
  | _ => False
def rd_first_place_1 : TSt := (sRt (tCl S_first_place_in (aCons (tVr 2) (aCons (tVr 3) aNil))))
def rd_first_place_0 : TSt := sSq (sAg (gTp 2 (gCn (gNm 2) (gCn (gNm 3) gNl))) (tCl S_sure_prime_to (aCons (tVr 0) (aCons (tVr 1) (aCons (tKc (.int 1000000000)) aNil))))) rd_first_place_1
theorem sem_first_place (ds : List D) (R : D → Prop) (h : S_first_place ds R) : rd_first_place_0 ⟨fun _ => R .non, fun x _ => R x, fun _ => False, fun _ => False⟩ (stE ["rule", "modulus", "own", "under"] ds) := by
  unfold S_first_place at h
  split at h <;> first | exact h.elim | skip
  rename_i p q m
  obtain ⟨ro, m1, m9, co, jo, h⟩ := h
  unfold rd_first_place_0; walk_at "tq"
  simp only [S_sure_prime_to]; walk_at "tq"
  refine ⟨ro, m1, m9, co, ?_⟩
  unfold rd_first_place_1; simp only [rl]; walk_at "tq"
  simp only [S_first_place_in]
  exact ⟨ro, m1, m9, co, jo, h⟩

theorem len_of_first_place {ds : List D} {R : D → Prop} (h : S_first_place ds R) : ds.length = 2 := by
  unfold S_first_place at h
  first | exact h.elim | (split at h <;> first | rfl | exact h.elim)
/-! sure_coprime -/
def S_sure_coprime : FS := fun ds R => match ds with
  | [.tup [.int _, .int q], .int m] => 1 ≤ m ∧ TM.Cop m.toNat q ∧ R (.int m)
  | _ => False
def rd_sure_coprime_0a_0 : TSt := sNever
def rd_sure_coprime_1 : TSt := (sRt (tVr 1))
def rd_sure_coprime_0 : TSt := sSq (sIf (tTs (tBin oNe (tCl S_common (aCons (tSeen 0 (tKc (.int 1))) (aCons (tVr 1) aNil))) (tKc (.int 1)))) rd_sure_coprime_0a_0 sNx) rd_sure_coprime_1
theorem sem_sure_coprime (ds : List D) (R : D → Prop) (h : S_sure_coprime ds R) : rd_sure_coprime_0 ⟨fun _ => R .non, fun x _ => R x, fun _ => False, fun _ => False⟩ (stE ["rule", "modulus"] ds) := by
  unfold S_sure_coprime at h
  split at h <;> first | exact h.elim | skip
  rename_i p q m
  obtain ⟨m1, co, h⟩ := h
  unfold rd_sure_coprime_0; walk_at "tq"
  simp only [S_common]; walk_at "tq"
  rw [Int.gcd_comm, gcd_one m1 co]
  refine ⟨fun z => absurd rfl z, fun _ => ?_⟩
  unfold rd_sure_coprime_1; walk_at "tq"
  exact h

theorem len_of_sure_coprime {ds : List D} {R : D → Prop} (h : S_sure_coprime ds R) : ds.length = 2 := by
  unfold S_sure_coprime at h
  first | exact h.elim | (split at h <;> first | rfl | exact h.elim)
/-! multiplier_in -/
/-- rule, modulus: good for first places -/
def ModOk (p q m : Int) : Prop := RuleOk p q ∧ 1 ≤ m ∧ m ≤ 1000000000 ∧ TM.Cop m.toNat q ∧ ∀ l, TM.Pr l → l ∣ m.toNat → JOk l
def S_multiplier_in : FS := fun ds R => match ds with
  | [.tup [.int p, .int q], .int m] => ModOk p q m ∧ ∀ r : Nat, TM.IsRk p q m.toNat r → R (.int (urest p q (r + 1) m))
  | _ => False
theorem sq_lt {m : Int} {r : Nat} (m9 : m ≤ 1000000000) (h : r ≤ m.toNat ^ 2) : r ≤ 1000000000000000000 := by
  have : m.toNat ^ 2 ≤ 1000000000 ^ 2 := Nat.pow_le_pow_left (by omega) 2
  omega
def rd_multiplier_in_0 : TSt := (sRt (tBin oIx (tCl S_pair_mod (aCons (tVr 0) (aCons (tCl S_first_place_in (aCons (tVr 0) (aCons (tVr 1) aNil))) (aCons (tVr 1) aNil)))) (tKc (.int 1))))
theorem sem_multiplier_in (ds : List D) (R : D → Prop) (h : S_multiplier_in ds R) : rd_multiplier_in_0 ⟨fun _ => R .non, fun x _ => R x, fun _ => False, fun _ => False⟩ (stE ["rule", "modulus"] ds) := by
  unfold S_multiplier_in at h
  split at h <;> first | exact h.elim | skip
  rename_i p q m
  obtain ⟨⟨ro, m1, m9, co, jo⟩, h⟩ := h
  unfold rd_multiplier_in_0; walk_at "tq"
  simp only [S_first_place_in, S_pair_mod]
  refine ⟨ro, m1, m9, co, jo, fun r hr rs => ?_⟩
  have rs' := sq_lt m9 rs
  refine ⟨pmOk_of ro (by omega) (by omega) (by omega) (by omega), ?_⟩
  walk_at "tq"
  rw [Int.toNat_natCast]
  exact h r hr

theorem len_of_multiplier_in {ds : List D} {R : D → Prop} (h : S_multiplier_in ds R) : ds.length = 2 := by
  unfold S_multiplier_in at h
  first | exact h.elim | (split at h <;> first | rfl | exact h.elim)
/-! round_in -/
theorem mult_cop {p q m : Int} {r : Nat} (m1 : 1 ≤ m) (co : TM.Cop m.toNat q) (hr : TM.IsRk p q m.toNat r) : TM.Cop m.toNat (urest p q (r + 1) m) ∧ ((m.toNat : Nat) : Int) ∣ TM.U p q (r + 1) - urest p q (r + 1) m := by
  have em : ((m.toNat : Nat) : Int) = m := Int.toNat_of_nonneg (by omega)
  have c := hr.dv.cop (by omega) co
  have d : ((m.toNat : Nat) : Int) ∣ TM.U p q (r + 1) - urest p q (r + 1) m := by rw [em]; exact dvd_em _ _
  exact ⟨TM.Cop.cong (by omega) c d, d⟩
def S_round_in : FS := fun ds R => match ds with
  | [.tup [.int p, .int q], .int m] => ModOk p q m ∧ ∀ r : Nat, TM.IsRnd p q m.toNat r → r ≤ m.toNat ^ 2 * m.toNat → R (.int r)
  | _ => False
def rd_round_in_0 : TSt := (sRt (tBin oMul (tCl S_first_place_in (aCons (tVr 0) (aCons (tVr 1) aNil))) (tCl S_order_in (aCons (tCl S_multiplier_in (aCons (tVr 0) (aCons (tVr 1) aNil))) (aCons (tVr 1) aNil)))))
theorem sem_round_in (ds : List D) (R : D → Prop) (h : S_round_in ds R) : rd_round_in_0 ⟨fun _ => R .non, fun x _ => R x, fun _ => False, fun _ => False⟩ (stE ["rule", "modulus"] ds) := by
  unfold S_round_in at h
  split at h <;> first | exact h.elim | skip
  rename_i p q m
  obtain ⟨mo, h⟩ := h
  have mo' := mo
  obtain ⟨ro, m1, m9, co, jo⟩ := mo'
  unfold rd_round_in_0; walk_at "tq"
  simp only [S_first_place_in, S_multiplier_in, S_order_in]
  refine ⟨ro, m1, m9, co, jo, fun r hr rs => ⟨mo, fun r2 hr2 => ?_⟩⟩
  rw [hr2.unique hr]
  obtain ⟨c, d⟩ := mult_cop m1 co hr
  refine ⟨m1, m9, c, fun o ho os => ?_⟩
  have rs' := sq_lt m9 rs
  have hR := TM.IsRnd.of hr (ho.cong (by rw [← Int.dvd_neg, Int.neg_sub]; exact d))
  refine ⟨.l ⟨by omega, by omega⟩, ?_⟩
  rw [← Int.natCast_mul]
  exact h _ hR (Nat.mul_le_mul rs os)

theorem len_of_round_in {ds : List D} {R : D → Prop} (h : S_round_in ds R) : ds.length = 2 := by
  unfold S_round_in at h
  first | exact h.elim | (split at h <;> first | rfl | exact h.elim)
/-! round_of -/
def S_round_of : FS := fun ds R => match ds with
  | [.tup [.int p, .int q], .int m] => ModOk p q m ∧ ∀ r : Nat, TM.IsRnd p q m.toNat r → r ≤ m.toNat ^ 2 * m.toNat → R (.int r)
  | _ => False
def rd_round_of_1 : TSt := (sRt (tCl S_round_in (aCons (tVr 2) (aCons (tCl S_sure_coprime (aCons (tVr 2) (aCons (tCl S_sure_within (aCons (tVr 1) (aCons (tKc (.int 1)) (aCons (tKc (.int 1000000000)) aNil)))) aNil))) aNil))))
def rd_round_of_0 : TSt := sSq (sAs 2 (tCl S_sure_rule (aCons (tVr 0) aNil))) rd_round_of_1
theorem sem_round_of (ds : List D) (R : D → Prop) (h : S_round_of ds R) : rd_round_of_0 ⟨fun _ => R .non, fun x _ => R x, fun _ => False, fun _ => False⟩ (stE ["rule", "modulus", "own"] ds) := by
  unfold S_round_of at h
  split at h <;> first | exact h.elim | skip
  rename_i p q m
  obtain ⟨mo, h⟩ := h
  have mo' := mo
  obtain ⟨ro, m1, m9, co, jo⟩ := mo'
  unfold rd_round_of_0; walk_at "tq"
  simp only [S_sure_rule]
  refine ⟨ro, ?_⟩
  unfold rd_round_of_1; walk_at "tq"
  simp only [S_sure_within, S_sure_coprime, S_round_in, rl]
  exact ⟨m1, m9, m1, co, mo, h⟩

theorem len_of_round_of {ds : List D} {R : D → Prop} (h : S_round_of ds R) : ds.length = 2 := by
  unfold S_round_of at h
  first | exact h.elim | (split at h <;> first | rfl | exact h.elim)
/-! _law_of -/
def S__law_of : MS := fun z ds R => match ds with
  | [.lst xs] => xs ≠ [] ∧ xs.length ≤ 1000000 ∧ ∃ n : Nat, n < 2 ^ 40 ∧ TinOk n z ∧ ∀ (x z' : D), x ∈ xs → TinOk (n + 1) z' → R x z'
  | _ => False
def rd__law_of_0 : TSt := (sRt (tSeen 1 (tClM 0 S__law_take (aCons (tLenN 1) aNil))))
theorem sem__law_of (z : D) (ds : List D) (R : D → D → Prop) (h : S__law_of z ds R) : rd__law_of_0 ⟨fun E => match gt E 0 with | .o z' => R .non z' | _ => False, fun x E => match gt E 0 with | .o z' => R x z' | _ => False, fun _ => False, fun _ => False⟩ (stM ["tin", "goods_so"] z ds) := by
  unfold S__law_of at h
  split at h <;> first | exact h.elim | skip
  rename_i xs
  obtain ⟨xn, xl, n, n1, tz, h⟩ := h
  have x0 : 0 < xs.length := List.length_pos_iff.mpr xn
  unfold rd__law_of_0; walk_at "tq"
  simp only [S__law_take]; walk_at "tq"
  refine ⟨by omega, by omega, n, n1, tz, fun r z' r0 r1 tz' => ?_⟩
  have l : r.toNat < xs.length := by omega
  rw [atI_nn r0 (List.getElem?_eq_getElem l)]
  exact h _ _ (List.getElem_mem l) tz'

theorem len_of__law_of {z : D} {ds : List D} {R : D → D → Prop} (h : S__law_of z ds R) : ds.length + 1 = 2 := by
  unfold S__law_of at h
  first | exact h.elim | (split at h <;> first | rfl | exact h.elim)
/-! _law_common -/
def S__law_common : FS := fun ds R => match ds with
  | [.int a, .int b] => R (.int (Int.gcd a b : Nat))
  | _ => False
def rd__law_common_1w_0 : TSt := (sPr 2 3 (aCons (tVr 3) (aCons (tBin oMod (tVr 2) (tVr 3)) aNil)))
def rd__law_common_2 : TSt := (sRt (tVr 2))
def rd__law_common_1 : TSt := sSq (tWh (tTs (tBin oNe (tVr 3) (tKc (.int 0)))) rd__law_common_1w_0) rd__law_common_2
def rd__law_common_0 : TSt := sSq (sPr 2 3 (aCons (tBl oAbs (aCons (tVr 0) aNil)) (aCons (tBl oAbs (aCons (tVr 1) aNil)) aNil))) rd__law_common_1
theorem sem__law_common (ds : List D) (R : D → Prop) (h : S__law_common ds R) : rd__law_common_0 ⟨fun _ => R .non, fun x _ => R x, fun _ => False, fun _ => False⟩ (stE ["one_so", "two", "near", "far"] ds) := by
  unfold S__law_common at h
  split at h <;> first | exact h.elim | skip
  rename_i a b
  unfold rd__law_common_0; walk_at "tq"
  rw [abs_eq, abs_eq]
  unfold rd__law_common_1 rd__law_common_1w_0 rd__law_common_2; walk_at "tq"
  refine ⟨fun m E => ∃ x y : Nat, m = y ∧ E = [.d (.int a), .d (.int b), .d (.int x), .d (.int y)] ∧ Nat.gcd x y = Int.gcd a b, ⟨_, _, _, rfl, rfl, rfl⟩, ?_⟩
  rintro m E ⟨x, y, rfl, rfl, g⟩
  walk_at "tq"
  refine ⟨fun hy => ?_, fun hy => ?_⟩
  · have hy' : 0 < m := by omega
    refine ⟨by omega, x % m, Nat.mod_lt _ hy', m, x % m, rfl, ?_, ?_⟩
    · rw [Int.natCast_emod]
    · rw [← g, Nat.gcd_comm, ← Nat.gcd_rec, Nat.gcd_comm]
  · have hy' : m = 0 := by omega
    subst hy'
    rw [Nat.gcd_zero_right] at g
    rw [g]
    exact h

theorem len_of__law_common {ds : List D} {R : D → Prop} (h : S__law_common ds R) : ds.length = 2 := by
  unfold S__law_common at h
  first | exact h.elim | (split at h <;> first | rfl | exact h.elim)
/-! is_rule -/
def S_is_rule : FS := fun ds R => match ds with
  | [.tup [.int p, .int q]] => R (.bl (decide (RuleOk p q)))
  | _ => False
def rd_is_rule_0 : TSt := (sRt (tCl S_is_rule_in (aCons (tVr 0) aNil)))
theorem sem_is_rule (ds : List D) (R : D → Prop) (h : S_is_rule ds R) : rd_is_rule_0 ⟨fun _ => R .non, fun x _ => R x, fun _ => False, fun _ => False⟩ (stE ["thing"] ds) := by
  unfold S_is_rule at h
  split at h <;> first | exact h.elim | skip
  rename_i p q
  unfold rd_is_rule_0; walk_at "tq"
  exact h

theorem len_of_is_rule {ds : List D} {R : D → Prop} (h : S_is_rule ds R) : ds.length = 1 := by
  unfold S_is_rule at h
  first | exact h.elim | (split at h <;> first | rfl | exact h.elim)
/-! discriminant -/
def S_discriminant : FS := fun ds R => match ds with
  | [.tup [.int p, .int q]] => RuleOk p q ∧ R (.int (TM.disc p q))
  | _ => False
def rd_discriminant_0 : TSt := (sRt (tCl S_big_d (aCons (tCl S_sure_rule (aCons (tVr 0) aNil)) aNil)))
theorem sem_discriminant (ds : List D) (R : D → Prop) (h : S_discriminant ds R) : rd_discriminant_0 ⟨fun _ => R .non, fun x _ => R x, fun _ => False, fun _ => False⟩ (stE ["rule"] ds) := by
  unfold S_discriminant at h
  split at h <;> first | exact h.elim | skip
  rename_i p q
  obtain ⟨ro, h⟩ := h
  have ro' := ro
  unfold RuleOk at ro'
  unfold rd_discriminant_0; walk_at "tq"
  simp only [S_sure_rule, S_big_d, rl]
  exact ⟨ro, ⟨by omega, by omega⟩, h⟩

theorem len_of_discriminant {ds : List D} {R : D → Prop} (h : S_discriminant ds R) : ds.length = 1 := by
  unfold S_discriminant at h
  first | exact h.elim | (split at h <;> first | rfl | exact h.elim)
/-! companion -/
def S_companion : FS := fun ds R => match ds with
  | [.tup [.int p, .int q], .int n] => RuleOk p q ∧ 0 ≤ n ∧ n ≤ 3000 ∧ R (.int (TM.V p q n.toNat))
  | _ => False
def rd_companion_1 : TSt := (sRt (tBin oIx (tCl S_terms_in (aCons (tVr 2) (aCons (tKc (.str "v")) (aCons (tBin oAdd (tCl S_sure_within (aCons (tVr 1) (aCons (tKc (.int 0)) (aCons (tKc (.int 3000)) aNil)))) (tKc (.int 1))) aNil)))) (tUnr oNeg (tKc (.int 1)))))
def rd_companion_0 : TSt := sSq (sAs 2 (tCl S_sure_rule (aCons (tVr 0) aNil))) rd_companion_1
theorem sem_companion (ds : List D) (R : D → Prop) (h : S_companion ds R) : rd_companion_0 ⟨fun _ => R .non, fun x _ => R x, fun _ => False, fun _ => False⟩ (stE ["rule", "number", "own"] ds) := by
  unfold S_companion at h
  split at h <;> first | exact h.elim | skip
  rename_i p q n
  obtain ⟨ro, n0, n1, h⟩ := h
  unfold rd_companion_0; walk_at "tq"
  simp only [S_sure_rule]
  refine ⟨ro, ?_⟩
  unfold rd_companion_1; walk_at "tq"
  simp only [S_sure_within, S_terms_in, rl]; walk_at "tq"
  unfold RuleOk at ro
  refine ⟨n0, n1, ⟨by omega, by omega⟩, ⟨by omega, by omega⟩, by omega, by omega, ?_⟩
  rw [show (n + 1).toNat = n.toNat + 1 by omega, trD_s]; walk_at "tq"
  have eV : trW p q ("v" : Str) n.toNat = TM.V p q n.toNat := by
    unfold trW
    rw [if_neg (by decide)]
  rw [eV]
  exact h

theorem len_of_companion {ds : List D} {R : D → Prop} (h : S_companion ds R) : ds.length = 2 := by
  unfold S_companion at h
  first | exact h.elim | (split at h <;> first | rfl | exact h.elim)
/-! v_mod -/
def vrest (p q : Int) (n : Nat) (m : Int) : Int := TM.V p q n % m
def S_v_mod : FS := fun ds R => match ds with
  | [.tup [.int p, .int q], .int n, .int m] => PmOk p q n m ∧ R (.int (vrest p q n.toNat m))
  | _ => False
def rd_v_mod_1 : TSt := (sRt (tBin oMod (tBin oSub (tBin oMul (tKc (.int 2)) (tVr 4)) (tBin oMul (tSeen 0 (tKc (.int 0))) (tVr 3))) (tVr 2)))
def rd_v_mod_0 : TSt := sSq (sAg (gTp 2 (gCn (gNm 3) (gCn (gNm 4) gNl))) (tCl S_pair_mod (aCons (tVr 0) (aCons (tVr 1) (aCons (tVr 2) aNil))))) rd_v_mod_1
theorem sem_v_mod (ds : List D) (R : D → Prop) (h : S_v_mod ds R) : rd_v_mod_0 ⟨fun _ => R .non, fun x _ => R x, fun _ => False, fun _ => False⟩ (stE ["rule", "number", "modulus", "near", "far"] ds) := by
  unfold S_v_mod at h
  split at h <;> first | exact h.elim | skip
  rename_i p q n m
  obtain ⟨po, h⟩ := h
  have po' := po
  obtain ⟨p1, p2, q1, q2, n1, n2, m1, m2⟩ := po'
  unfold rd_v_mod_0; walk_at "tq"
  simp only [S_pair_mod]; walk_at "tq"
  refine ⟨po, ?_⟩
  unfold rd_v_mod_1; walk_at "tq"
  refine ⟨.l (by decide), .l ⟨by omega, by omega⟩, m1, ?_⟩
  have e : (2 * urest p q (n.toNat + 1) m - p * urest p q n.toNat m) % m = vrest p q n.toNat m := by
    unfold urest vrest
    rw [TM.V_eq]
    apply em_eq
    obtain ⟨a, ha⟩ := dvd_em (TM.U p q n.toNat) m
    obtain ⟨b, hb⟩ := dvd_em (TM.U p q (n.toNat + 1)) m
    exact ⟨p * a - 2 * b, by grind⟩
  rw [e]
  exact h

theorem len_of_v_mod {ds : List D} {R : D → Prop} (h : S_v_mod ds R) : ds.length = 3 := by
  unfold S_v_mod at h
  first | exact h.elim | (split at h <;> first | rfl | exact h.elim)
/-! term_rest -/
def S_term_rest : FS := fun ds R => match ds with
  | [.tup [.int p, .int q], .int n, .int m] => RuleOk p q ∧ FarOk n m ∧ R (.int (urest p q n.toNat m))
  | _ => False
def rd_term_rest_2 : TSt := (sRt (tBin oIx (tCl S_pair_mod (aCons (tVr 3) (aCons (tVr 4) (aCons (tVr 5) aNil)))) (tKc (.int 0))))
def rd_term_rest_1 : TSt := sSq (sAg (gTp 2 (gCn (gNm 4) (gCn (gNm 5) gNl))) (tCl S_sure_far (aCons (tVr 1) (aCons (tVr 2) aNil)))) rd_term_rest_2
def rd_term_rest_0 : TSt := sSq (sAs 3 (tCl S_sure_rule (aCons (tVr 0) aNil))) rd_term_rest_1
theorem sem_term_rest (ds : List D) (R : D → Prop) (h : S_term_rest ds R) : rd_term_rest_0 ⟨fun _ => R .non, fun x _ => R x, fun _ => False, fun _ => False⟩ (stE ["rule", "number", "modulus", "own", "far", "under"] ds) := by
  unfold S_term_rest at h
  split at h <;> first | exact h.elim | skip
  rename_i p q n m
  obtain ⟨ro, fo, h⟩ := h
  unfold rd_term_rest_0; walk_at "tq"
  simp only [S_sure_rule]
  refine ⟨ro, ?_⟩
  unfold rd_term_rest_1; walk_at "tq"
  simp only [S_sure_far]; walk_at "tq"
  refine ⟨fo, ?_⟩
  unfold rd_term_rest_2; simp only [rl]; walk_at "tq"
  simp only [S_pair_mod]; walk_at "tq"
  exact ⟨pm_far ro fo, h⟩

theorem len_of_term_rest {ds : List D} {R : D → Prop} (h : S_term_rest ds R) : ds.length = 3 := by
  unfold S_term_rest at h
  first | exact h.elim | (split at h <;> first | rfl | exact h.elim)
/-! companion_rest -/
def S_companion_rest : FS := fun ds R => match ds with
  | [.tup [.int p, .int q], .int n, .int m] => RuleOk p q ∧ FarOk n m ∧ R (.int (vrest p q n.toNat m))
  | _ => False
def rd_companion_rest_2 : TSt := (sRt (tCl S_v_mod (aCons (tVr 3) (aCons (tVr 4) (aCons (tVr 5) aNil)))))
def rd_companion_rest_1 : TSt := sSq (sAg (gTp 2 (gCn (gNm 4) (gCn (gNm 5) gNl))) (tCl S_sure_far (aCons (tVr 1) (aCons (tVr 2) aNil)))) rd_companion_rest_2
def rd_companion_rest_0 : TSt := sSq (sAs 3 (tCl S_sure_rule (aCons (tVr 0) aNil))) rd_companion_rest_1
theorem sem_companion_rest (ds : List D) (R : D → Prop) (h : S_companion_rest ds R) : rd_companion_rest_0 ⟨fun _ => R .non, fun x _ => R x, fun _ => False, fun _ => False⟩ (stE ["rule", "number", "modulus", "own", "far", "under"] ds) := by
  unfold S_companion_rest at h
  split at h <;> first | exact h.elim | skip
  rename_i p q n m
  obtain ⟨ro, fo, h⟩ := h
  unfold rd_companion_rest_0; walk_at "tq"
  simp only [S_sure_rule]
  refine ⟨ro, ?_⟩
  unfold rd_companion_rest_1; walk_at "tq"
  simp only [S_sure_far]; walk_at "tq"
  refine ⟨fo, ?_⟩
  unfold rd_companion_rest_2; simp only [rl]; walk_at "tq"
  simp only [S_v_mod]
  exact ⟨pm_far ro fo, h⟩

theorem len_of_companion_rest {ds : List D} {R : D → Prop} (h : S_companion_rest ds R) : ds.length = 3 := by
  unfold S_companion_rest at h
  first | exact h.elim | (split at h <;> first | rfl | exact h.elim)
/-! two_terms -/
def kd1 (k : Str) : Str := if k = ("uu" : Str) ∨ k = ("uv" : Str) then "u" else "v"
def kd2 (k : Str) : Str := if k = ("uu" : Str) ∨ k = ("vu" : Str) then "u" else "v"
def S_two_terms : FS := fun ds R => match ds with
  | [.tup [.int p, .int q], .str k, .int a, .int b] => RuleOk p q ∧ (k = ("uu" : Str) ∨ k = ("vv" : Str) ∨ k = ("uv" : Str) ∨ k = ("vu" : Str)) ∧ 0 ≤ a ∧ a ≤ 3000 ∧ 0 ≤ b ∧ b ≤ 3000 ∧ R (.tup [.int (trW p q (kd1 k) a.toNat), .int (trW p q (kd2 k) b.toNat)])
  | _ => False
def rd_two_terms_3 : TSt := (sRt (tTu (aCons (tBin oIx (tCl S_terms_in (aCons (tVr 4) (aCons (tBin oIxS (tVr 1) (tKc (.int 0))) (aCons (tBin oAdd (tVr 5) (tKc (.int 1))) aNil)))) (tUnr oNeg (tKc (.int 1)))) (aCons (tBin oIx (tCl S_terms_in (aCons (tVr 4) (aCons (tBin oIxS (tVr 1) (tKc (.int 1))) (aCons (tBin oAdd (tVr 6) (tKc (.int 1))) aNil)))) (tUnr oNeg (tKc (.int 1)))) aNil))))
def rd_two_terms_2 : TSt := sSq (sAs 6 (tCl S_sure_within (aCons (tVr 3) (aCons (tKc (.int 0)) (aCons (tKc (.int 3000)) aNil))))) rd_two_terms_3
def rd_two_terms_1 : TSt := sSq (sAs 5 (tCl S_sure_within (aCons (tVr 2) (aCons (tKc (.int 0)) (aCons (tKc (.int 3000)) aNil))))) rd_two_terms_2
def rd_two_terms_0 : TSt := sSq (sAs 4 (tCl S_sure_rule (aCons (tVr 0) aNil))) rd_two_terms_1
theorem sem_two_terms (ds : List D) (R : D → Prop) (h : S_two_terms ds R) : rd_two_terms_0 ⟨fun _ => R .non, fun x _ => R x, fun _ => False, fun _ => False⟩ (stE ["rule", "kinds", "one", "other", "own", "near", "far"] ds) := by
  unfold S_two_terms at h
  split at h <;> first | exact h.elim | skip
  rename_i p q k a b
  obtain ⟨ro, hk, a0, a1, b0, b1, h⟩ := h
  have ro' := ro
  unfold RuleOk at ro'
  unfold rd_two_terms_0; walk_at "tq"
  simp only [S_sure_rule]
  refine ⟨ro, ?_⟩
  unfold rd_two_terms_1; walk_at "tq"
  simp only [S_sure_within]
  refine ⟨a0, a1, ?_⟩
  unfold rd_two_terms_2; walk_at "tq"
  simp only [S_sure_within]
  refine ⟨b0, b1, ?_⟩
  unfold rd_two_terms_3; simp only [rl]; walk_at "tq"
  have c1 : k.length ≤ 1000 ∧ ∃ c d, atI k.cps.toList 0 = some c ∧ atI k.cps.toList 1 = some d ∧ kd1 k = ⟨#[c]⟩ ∧ kd2 k = ⟨#[d]⟩ := by
    rcases hk with rfl | rfl | rfl | rfl
    · exact ⟨by decide, 117, 117, rfl, rfl, by decide, by decide⟩
    · exact ⟨by decide, 118, 118, rfl, rfl, by decide, by decide⟩
    · exact ⟨by decide, 117, 118, rfl, rfl, by decide, by decide⟩
    · exact ⟨by decide, 118, 117, rfl, rfl, by decide, by decide⟩
  obtain ⟨kl, c, d, e1, e2, f1, f2⟩ := c1
  rw [e1, e2]; walk_at "tq"
  simp only [S_terms_in]
  have wp : Wd p := ⟨by omega, by omega⟩
  have wq : Wd q := ⟨by omega, by omega⟩
  rw [← f1, ← f2, show (a + 1).toNat = a.toNat + 1 by omega, show (b + 1).toNat = b.toNat + 1 by omega, trD_s, trD_s]; walk_at "tq"
  exact ⟨kl, wp, wq, by omega, by omega, kl, wp, wq, by omega, by omega, h⟩

theorem len_of_two_terms {ds : List D} {R : D → Prop} (h : S_two_terms ds R) : ds.length = 4 := by
  unfold S_two_terms at h
  first | exact h.elim | (split at h <;> first | rfl | exact h.elim)
/-! common_terms -/
def S_common_terms : FS := fun ds R => match ds with
  | [.tup [.int p, .int q], .int a, .int b] => RuleOk p q ∧ 0 ≤ a ∧ a ≤ 3000 ∧ 0 ≤ b ∧ b ≤ 3000 ∧ R (.int (Int.gcd (TM.U p q a.toNat) (TM.U p q b.toNat) : Nat))
  | _ => False
def rd_common_terms_1 : TSt := (sRt (tCl S_common (aCons (tVr 3) (aCons (tVr 4) aNil))))
def rd_common_terms_0 : TSt := sSq (sAg (gTp 2 (gCn (gNm 3) (gCn (gNm 4) gNl))) (tCl S_two_terms (aCons (tVr 0) (aCons (tKc (.str "uu")) (aCons (tVr 1) (aCons (tVr 2) aNil)))))) rd_common_terms_1
theorem sem_common_terms (ds : List D) (R : D → Prop) (h : S_common_terms ds R) : rd_common_terms_0 ⟨fun _ => R .non, fun x _ => R x, fun _ => False, fun _ => False⟩ (stE ["rule", "one", "other", "near", "far"] ds) := by
  unfold S_common_terms at h
  split at h <;> first | exact h.elim | skip
  rename_i p q a b
  obtain ⟨ro, a0, a1, b0, b1, h⟩ := h
  unfold rd_common_terms_0; walk_at "tq"
  simp only [S_two_terms]
  refine ⟨ro, .inl trivial, a0, a1, b0, b1, ?_⟩
  have k1 : kd1 ("uu" : Str) = "u" := by decide
  have k2 : kd2 ("uu" : Str) = "u" := by decide
  rw [k1, k2]; walk_at "tq"
  unfold rd_common_terms_1; walk_at "tq"
  simp only [S_common]
  have eU : ∀ n, trW p q ("u" : Str) n = TM.U p q n := fun n => by simp [trW]
  rw [eU, eU]
  exact h

theorem len_of_common_terms {ds : List D} {R : D → Prop} (h : S_common_terms ds R) : ds.length = 3 := by
  unfold S_common_terms at h
  first | exact h.elim | (split at h <;> first | rfl | exact h.elim)
/-! _law_vs -/
def S__law_vs : FS := fun ds R => match ds with
  | [.tup [.int p, .int q], .int n] => Wd p ∧ Wd q ∧ 0 ≤ n ∧ n ≤ 100000 ∧ R (.lst (trD p q ("v" : Str) n.toNat))
  | _ => False
def rd__law_vs_1f_0 : TSt := (sAp 2 (tBin oSub (tBin oMul (tSeen 0 (tKc (.int 0))) (tSeen 2 (tUnr oNeg (tKc (.int 1))))) (tBin oMul (tSeen 0 (tKc (.int 1))) (tSeen 2 (tUnr oNeg (tKc (.int 2)))))))
def rd__law_vs_2 : TSt := (sRt (tSlc (tVr 2) qNo (qSo (tVr 1))))
def rd__law_vs_1 : TSt := sSq (tFo (iR1 (aCons (tVr 1) aNil)) (gNm 3) rd__law_vs_1f_0) rd__law_vs_2
def rd__law_vs_0 : TSt := sSq (sAo 2 (tLi (aCons (tKc (.int 2)) (aCons (tSeen 0 (tKc (.int 0))) aNil)))) rd__law_vs_1
theorem sem__law_vs (ds : List D) (R : D → Prop) (h : S__law_vs ds R) : rd__law_vs_0 ⟨fun _ => R .non, fun x _ => R x, fun _ => False, fun _ => False⟩ (stE ["rule_so", "many_so", "found", "lap"] ds) := by
  unfold S__law_vs at h
  split at h <;> first | exact h.elim | skip
  rename_i p q n
  obtain ⟨wp, wq, n0, n1, h⟩ := h
  unfold rd__law_vs_0; walk_at "tq"
  unfold rd__law_vs_1; walk_at "tq"
  refine ⟨⟨by omega, by omega⟩, ?_⟩
  refine for_rg (fun i E => ∃ c, E = [.d (.tup [.int p, .int q]), .d (.int n), .o (.lst (trD p q ("v" : Str) (i + 2))), c]) ⟨.no, ?_⟩ ?_ ?_
  · have e0 : ¬ (("v" : Str) = ("u" : Str)) := by decide
    simp [trD, trW, List.range_succ, TM.V, e0]
  · rintro i E KK hi ⟨c, rfl⟩ hK
    walk_at "tq"
    unfold rd__law_vs_1f_0; walk_at "tq"
    rw [trD_two]; walk_at "tq"
    refine ⟨.l wp, .l wq, by rw [List.length_append, trD_len]; simp; omega, ?_⟩
    rw [← trW_ss, ← trD_two, ← trD_s]
    exact hK _ ⟨_, rfl⟩
  · rintro E ⟨c, rfl⟩
    unfold rd__law_vs_2; walk_at "tq"
    rw [cutD_to _ n0, trD_take p q _ (by omega)]
    exact h

theorem len_of__law_vs {ds : List D} {R : D → Prop} (h : S__law_vs ds R) : ds.length = 2 := by
  unfold S__law_vs at h
  first | exact h.elim | (split at h <;> first | rfl | exact h.elim)
theorem TinOk.mono {a b : Nat} {z : D} (h : TinOk a z) (l : a ≤ b) : TinOk b z := by
  obtain ⟨x, y, w, rfl, h1, h2, h3, h4, h5⟩ := h
  exact ⟨x, y, w, rfl, h1, h2, h3, h4, by omega⟩
theorem trD_at {p q : Int} {n m : Nat} (h : n < m) : atI (trD p q ("u" : Str) m) (n : Int) = some (.int (TM.U p q n)) := by
  refine atI_nn (by omega) ?_
  rw [Int.toNat_natCast]
  unfold trD
  rw [List.getElem?_map, List.getElem?_range h]
  simp [trW]
theorem same_sem {n : Nat} {x y : D} {R : D → Prop} (hx : samN n x) (hy : samN n y) (h : ∀ b : Bool, (b = true ↔ x = y) → R (.bl b)) : S__law_sameN n [x, y] R := ⟨hx, hy, h⟩
theorem fst_of {p q : Int} {m t g r : Nat} (hg : TM.IsRk p q m g) (gt : g ≤ t) (h : FstAt p q m t r) : r = g := by
  rcases h with ⟨_, h⟩ | ⟨r0, _, hr, h⟩
  · exact absurd hg.dv (h g hg.pos gt)
  · have h1 := hg.least r0 hr
    apply Nat.le_antisymm _ h1
    apply Nat.le_of_not_lt
    intro y
    exact h g hg.pos y hg.dv
theorem rk_L {p q : Int} : ∀ {L : List (Nat × Nat)} {n : Nat}, TM.IsFac n L → TM.Cop n q → (∀ x ∈ L, PrOk q x.1) → ∃ r, TM.IsRk p q n r ∧ r ≤ n ^ 2
  | [], n, h, _, _ => by
    have := h.prod
    refine ⟨1, this ▸ TM.IsRk.one p q, ?_⟩
    rw [← this]; exact Nat.le_refl 1
  | (l, j) :: L, n, h, c, hp => by
    have e : n = l ^ j * TM.prodF L := h.prod.symm
    have pl := (h.pr (l, j) (by simp)).1
    have j1 : 1 ≤ j := (h.pr (l, j) (by simp)).2
    have h' : TM.IsFac (TM.prodF L) L := ⟨rfl, fun x hx => h.pr x (List.mem_cons_of_mem _ hx), (List.pairwise_cons.mp h.asc).2⟩
    obtain ⟨r, hr, rs⟩ := rk_L h' (c.dvd ⟨l ^ j, by rw [e, Nat.mul_comm]⟩) fun x hx => hp x (List.mem_cons_of_mem _ hx)
    have po : PrOk q l := hp (l, j) (by simp)
    have cop : Nat.Coprime (l ^ j) (TM.prodF L) := by
      refine Nat.Coprime.pow_left j (pl.coprime fun hd => ?_)
      obtain ⟨e', he⟩ := TM.prodF_dvd (n := n) pl h'.pr hd
      exact Nat.lt_irrefl _ ((List.pairwise_cons.mp h.asc).1 (l, e') he)
    have ex : ∃ s, TM.IsRk p q (l ^ j) s := by
      obtain ⟨g, hg⟩ := grd_ex (p := p) po
      by_cases jj : l = 2 ∧ j = 1
      · obtain ⟨rfl, rfl⟩ := jj
        obtain ⟨b0, b1, bd⟩ := bd_dv (p := p) po
        exact TM.IsRk.exist (by decide) (TM.Cop.pow pl po.2.1) (show 0 < (bdZ p q 2).toNat by omega) bd
      · by_cases u : TM.U p q g = 0
        · exact ⟨_, hg.pow0 u (by omega) j1⟩
        · obtain ⟨e, he⟩ := TM.Vl.exist pl u
          exact ⟨_, hg.pow pl po.2.1 he (by omega) j1⟩
    obtain ⟨s, hs⟩ := ex
    have ss := rk_size po j1 hs
    refine ⟨Nat.lcm s r, e ▸ hs.mul hr cop, ?_⟩
    rw [e, Nat.mul_pow]
    exact Nat.le_trans (Nat.le_of_dvd (Nat.mul_pos hs.pos hr.pos) (Nat.lcm_dvd_mul s r)) (Nat.mul_le_mul ss rs)
theorem rk_ex {p q : Int} {m : Nat} (m9 : m < 2 ^ 32) (m1 : 1 ≤ m) (co : TM.Cop m q) (hj : ∀ l, TM.Pr l → l ∣ m → JOk l ∧ l ≤ m) : ∃ r, TM.IsRk p q m r ∧ r ≤ m * m := by
  obtain ⟨L, hL⟩ := TM.IsFac.exist m1
  have := rk_L (p := p) hL co fun x hx => by
    have px := hL.pr x hx
    have h1 := hL.mem_dvd (l := x.1) (e := x.2) hx
    have h2 := Nat.pow_dvd_pow x.1 px.2
    rw [Nat.pow_one] at h2
    have xd := Nat.dvd_trans h2 h1
    obtain ⟨jo, xl⟩ := hj x.1 px.1 xd
    refine ⟨px.1, fun z => ?_, by omega, jo⟩
    have := Nat.dvd_gcd xd (Int.ofNat_dvd_left.mp z)
    rw [co] at this
    have := Nat.le_of_dvd (by decide) this
    have := px.1.two_le
    omega
  rwa [Nat.pow_succ, Nat.pow_one] at this

/-- the program's sign is right at every odd prime -/
theorem jok {l : Nat} (h : TM.Pr l) : JOk l := fun n a => TM.sgn_jac h n a
def prB (l : Nat) : Bool := decide (2 ≤ l) && (List.range l).all fun d => decide (d < 2) || !decide (l % d = 0)
theorem pr_of {l : Nat} (h : prB l = true) : TM.Pr l := by
  unfold prB at h
  rw [Bool.and_eq_true, decide_eq_true_eq] at h
  refine ⟨h.1, fun d hd => ?_⟩
  by_cases e : d = l
  · exact .inr e
  · left
    have dl := Nat.le_of_dvd (by omega) hd
    have := List.all_eq_true.mp h.2 d (List.mem_range.mpr (by omega))
    rw [Bool.or_eq_true, decide_eq_true_eq, Bool.not_eq_true', decide_eq_false_iff_not] at this
    have d0 : d ≠ 0 := by rintro rfl; rw [Nat.zero_dvd] at hd; omega
    rcases this with y | y
    · omega
    · exact absurd (Nat.mod_eq_zero_of_dvd hd) y
theorem prB_of {l : Nat} (h : TM.Pr l) : prB l = true := by
  unfold prB
  rw [Bool.and_eq_true, decide_eq_true_eq]
  refine ⟨h.1, List.all_eq_true.mpr fun d hd => ?_⟩
  have dl := List.mem_range.mp hd
  rw [Bool.or_eq_true, decide_eq_true_eq, Bool.not_eq_true', decide_eq_false_iff_not]
  by_cases z : d < 2
  · exact .inl z
  · right
    intro y
    rcases h.2 d (Nat.dvd_of_mod_eq_zero y) with e | e <;> omega
theorem jok200 {l : Nat} (h : TM.Pr l) (_ : l ≤ 200) : JOk l := jok h

/-! law_k66 -/
def S_law_k66 : FS := fun ds R => match ds with
  | [.lst ds] => (∃ xs : List Int, ds = xs.map D.int) ∧ R (.bl true)
  | _ => False
def rd_law_k66_1f_4f_0 : TSt := (sAs 7 (tBin oMul (tVr 7) (tSeen 3 (tKc (.int 1)))))
def rd_law_k66_1f_5a_0 : TSt := (sAg (gTp 2 (gCn (gNm 4) (gCn (gNm 7) gNl))) (tTu (aCons (tBin oAdd (tKc (.int 1)) (tBin oMod (tVr 4) (tKc (.int 2)))) (aCons (tIfE (tTs (tBin oEq (tBin oMod (tVr 4) (tKc (.int 2))) (tKc (.int 0)))) (tSeen 3 (tKc (.int 1))) (tBin oMul (tSeen 3 (tKc (.int 1))) (tSeen 3 (tKc (.int 1))))) aNil))))
def rd_law_k66_1f_7a_0 : TSt := (sRt (tKc (.bl false)))
def rd_law_k66_1f_8f_1a_0 : TSt := (sRt (tKc (.bl false)))
def rd_law_k66_1f_8f_2a_0a_0 : TSt := (sRt (tKc (.bl false)))
def rd_law_k66_1f_8f_2a_1a_0 : TSt := (sRt (tKc (.bl false)))
def rd_law_k66_1f_8f_2a_1 : TSt := (sIf (tNo (tTs (tCl S__law_same (aCons (tBin oMul (tCl S_common_terms (aCons (tVr 9) (aCons (tVr 10) (aCons (tVr 11) aNil)))) (tBl oAbs (aCons (tSeen 6 (tVr 4)) aNil))) (aCons (tCl S_common_terms (aCons (tVr 3) (aCons (tBin oMul (tVr 4) (tVr 10)) (aCons (tBin oMul (tVr 4) (tVr 11)) aNil)))) aNil))))) rd_law_k66_1f_8f_2a_1a_0 sNx)
def rd_law_k66_1f_8f_2a_0 : TSt := sSq (sIf (tNo (tTs (tCl S__law_same (aCons (tCl S_quotient (aCons (tVr 3) (aCons (tVr 4) (aCons (tVr 10) aNil)))) (aCons (tCl S_term (aCons (tVr 9) (aCons (tVr 10) aNil))) aNil))))) rd_law_k66_1f_8f_2a_0a_0 sNx) rd_law_k66_1f_8f_2a_1
def rd_law_k66_1f_8f_2 : TSt := (sIf (tTs (tBin oNe (tSeen 6 (tVr 4)) (tKc (.int 0)))) rd_law_k66_1f_8f_2a_0 sNx)
def rd_law_k66_1f_8f_1 : TSt := sSq (sIf (tOo (tTs (tBin oNe (tBin oMul (tSeen 6 (tVr 4)) (tCl S_term (aCons (tVr 9) (aCons (tVr 10) aNil)))) (tSeen 6 (tBin oMul (tVr 4) (tVr 10))))) (tNo (tTs (tCl S__law_same (aCons (tCl S_companion (aCons (tVr 9) (aCons (tVr 10) aNil))) (aCons (tCl S_companion (aCons (tVr 3) (aCons (tBin oMul (tVr 4) (tVr 10)) aNil))) aNil)))))) rd_law_k66_1f_8f_1a_0 sNx) rd_law_k66_1f_8f_2
def rd_law_k66_1f_8f_0 : TSt := sSq (sPr 10 11 (aCons (tClM 1 S__law_take (aCons (tKc (.int 40)) aNil)) (aCons (tClM 1 S__law_take (aCons (tKc (.int 40)) aNil)) aNil))) rd_law_k66_1f_8f_1
def rd_law_k66_1f_10a_0 : TSt := (sRt (tKc (.bl false)))
def rd_law_k66_1f_11a_0 : TSt := (sRt (tKc (.bl false)))
def rd_law_k66_1f_15a_0 : TSt := (sRt (tKc (.bl false)))
def rd_law_k66_1f_16a_0 : TSt := (sRt (tKc (.bl false)))
def rd_law_k66_1f_16 : TSt := (sIf (tTs (tBin oNe (tBin oMod (tCl S_round_of (aCons (tVr 3) (aCons (tVr 12) aNil))) (tIfE (tTs (tBin oNe (tSeen 6 (tVr 4)) (tKc (.int 0)))) (tCl S_round_of (aCons (tVr 9) (aCons (tVr 12) aNil))) (tKc (.int 1)))) (tKc (.int 0)))) rd_law_k66_1f_16a_0 sNx)
def rd_law_k66_1f_15 : TSt := sSq (sIf (tAn (tTs (tBin oNe (tSeen 6 (tVr 4)) (tKc (.int 0)))) (tNo (tTs (tCl S__law_same (aCons (tCl S_first_place (aCons (tVr 9) (aCons (tVr 12) aNil))) (aCons (tBin oDiv (tVr 14) (tCl S__law_common (aCons (tVr 14) (aCons (tVr 4) aNil)))) aNil)))))) rd_law_k66_1f_15a_0 sNx) rd_law_k66_1f_16
def rd_law_k66_1f_14 : TSt := sSq (sAs 14 (tCl S__law_first (aCons (tVr 3) (aCons (tVr 12) (aCons (tBin oMul (tVr 12) (tVr 12)) aNil))))) rd_law_k66_1f_15
def rd_law_k66_1f_13 : TSt := sSq (sAs 12 (tClM 1 S__law_of (aCons (tVr 13) aNil))) rd_law_k66_1f_14
def rd_law_k66_1f_12 : TSt := sSq (sAs 13 (tIfE (tTs (tBin oNe (tSeen 6 (tVr 4)) (tKc (.int 0)))) (tLcm (iR2 (aCons (tKc (.int 1)) (aCons (tKc (.int 150)) aNil))) (gNm 11) (tTs (tBin oEq (tCl S__law_common (aCons (tVr 11) (aCons (tBin oMul (tSeen 3 (tKc (.int 1))) (tSeen 6 (tVr 4))) aNil))) (tKc (.int 1)))) (tVr 11) [11]) (tLi (aCons (tKc (.int 1)) aNil)))) rd_law_k66_1f_13
def rd_law_k66_1f_11 : TSt := sSq (sIf (tNo (tTs (tCl S__law_same (aCons (tCl S_companion_rest (aCons (tVr 9) (aCons (tVr 10) (aCons (tVr 12) aNil)))) (aCons (tCl S_companion_rest (aCons (tVr 3) (aCons (tBin oMul (tVr 4) (tVr 10)) (aCons (tVr 12) aNil)))) aNil))))) rd_law_k66_1f_11a_0 sNx) rd_law_k66_1f_12
def rd_law_k66_1f_10 : TSt := sSq (sIf (tTs (tBin oNe (tBin oMod (tBin oMul (tSeen 6 (tVr 4)) (tCl S_term_rest (aCons (tVr 9) (aCons (tVr 10) (aCons (tVr 12) aNil))))) (tVr 12)) (tCl S_term_rest (aCons (tVr 3) (aCons (tBin oMul (tVr 4) (tVr 10)) (aCons (tVr 12) aNil)))))) rd_law_k66_1f_10a_0 sNx) rd_law_k66_1f_11
def rd_law_k66_1f_9 : TSt := sSq (sPr 10 12 (aCons (tClM 1 S__law_take (aCons (tBin oPow (tKc (.int 10)) (tKc (.int 17))) aNil)) (aCons (tBin oAdd (tKc (.int 1)) (tClM 1 S__law_take (aCons (tBin oPow (tKc (.int 10)) (tKc (.int 12))) aNil))) aNil))) rd_law_k66_1f_10
def rd_law_k66_1f_8 : TSt := sSq (tFo (iR1 (aCons (tKc (.int 4)) aNil)) (gNm 8) rd_law_k66_1f_8f_0) rd_law_k66_1f_9
def rd_law_k66_1f_7 : TSt := sSq (sIf (tOo (tTs (tBin oNotB (tCl S_is_rule (aCons (tVr 9) aNil)) (tKc (.bl true)))) (tTs (tBin oNe (tCl S_discriminant (aCons (tVr 9) aNil)) (tBin oMul (tBin oMul (tCl S_discriminant (aCons (tVr 3) aNil)) (tSeen 6 (tVr 4))) (tSeen 6 (tVr 4)))))) rd_law_k66_1f_7a_0 sNx) rd_law_k66_1f_8
def rd_law_k66_1f_6 : TSt := sSq (sAs 9 (tTu (aCons (tSeen 5 (tVr 4)) (aCons (tVr 7) aNil)))) rd_law_k66_1f_7
def rd_law_k66_1f_5 : TSt := sSq (sIf (tOo (tTs (tBin oGt (tBl oAbs (aCons (tSeen 5 (tVr 4)) aNil)) (tKc (.int 1000)))) (tTs (tBin oGt (tBl oAbs (aCons (tVr 7) aNil)) (tKc (.int 1000))))) rd_law_k66_1f_5a_0 sNx) rd_law_k66_1f_6
def rd_law_k66_1f_4 : TSt := sSq (tFo (iR1 (aCons (tVr 4) aNil)) (gNm 8) rd_law_k66_1f_4f_0) rd_law_k66_1f_5
def rd_law_k66_1f_3 : TSt := sSq (sAs 7 (tKc (.int 1))) rd_law_k66_1f_4
def rd_law_k66_1f_2 : TSt := sSq (sAg (gTp 2 (gCn (gNm 5) (gCn (gNm 6) gNl))) (tTu (aCons (tCl S__law_vs (aCons (tVr 3) (aCons (tKc (.int 8)) aNil))) (aCons (tCl S__law_us (aCons (tVr 3) (aCons (tKc (.int 300)) aNil))) aNil)))) rd_law_k66_1f_3
def rd_law_k66_1f_1 : TSt := sSq (sAs 4 (tBin oAdd (tKc (.int 1)) (tClM 1 S__law_take (aCons (tKc (.int 6)) aNil)))) rd_law_k66_1f_2
def rd_law_k66_1f_0 : TSt := sSq (sAs 3 (tClM 1 S__law_rule (aCons (tKc (.int 6)) aNil))) rd_law_k66_1f_1
def rd_law_k66_2 : TSt := (sRt (tKc (.bl true)))
def rd_law_k66_1 : TSt := sSq (tFo (iR1 (aCons (tKc (.int 3)) aNil)) (gNm 2) rd_law_k66_1f_0) rd_law_k66_2
def rd_law_k66_0 : TSt := sSq (sAo 1 (tCl S__law_box (aCons (tCl S__law_cells (aCons (tVr 0) (aCons (tKc (.int 1)) aNil))) (aCons (tKc (.int 0)) aNil)))) rd_law_k66_1
theorem trV_at {p q : Int} {n m : Nat} (h : n < m) : atI (trD p q ("v" : Str) m) (n : Int) = some (.int (TM.V p q n)) := by
  refine atI_nn (by omega) ?_
  rw [Int.toNat_natCast]
  unfold trD
  rw [List.getElem?_map, List.getElem?_range h]
  have : ¬ (("v" : Str) = ("u" : Str)) := by decide
  simp [trW, this]
structure K66 (p q : Int) (k : Nat) : Prop where
  ro : RuleOk p q
  k1 : 1 ≤ k
  k6 : k ≤ 6
  wo : RuleOk (TM.V p q k) (q ^ k)
abbrev e66 (scr z : D) (p q : Int) (k : Nat) (a2 a7 a8 a10 a11 a12 a13 a14 : Sl) : SE := [.d scr, .o z, a2, .d (.tup [.int p, .int q]), .d (.int (k : Nat)), .d (.lst (trD p q ("v" : Str) 8)), .d (.lst (trD p q ("u" : Str) 300)), a7, a8, .d (.tup [.int (TM.V p q k), .int (q ^ k)]), a10, a11, a12, a13, a14]
theorem k66_F {scr z : D} {p q : Int} {k m : Nat} {rt : D → SE → Prop} {KK bk : SE → Prop} {a2 a7 a8 a10 a11 a13 a14 : Sl} (C : K66 p q k) (m1 : 1 ≤ m) (m2 : m ≤ 200) (co : TM.Cop m q) (cu : TM.U p q k ≠ 0 → TM.Cop m (TM.U p q k)) (c0 : TM.U p q k = 0 → m = 1)
    (hK : ∀ b14, KK (e66 scr z p q k a2 a7 a8 a10 a11 (.d (.int (m : Nat))) a13 b14)) :
    rd_law_k66_1f_14 ⟨KK, rt, bk, KK⟩ (e66 scr z p q k a2 a7 a8 a10 a11 (.d (.int (m : Nat))) a13 a14) := by
  have k1 := C.k1
  have k6 := C.k6
  have ro := C.ro
  have wo := C.wo
  have ro' := ro
  unfold RuleOk at ro'
  have jo : ∀ l, TM.Pr l → l ∣ ((m : Nat) : Int).toNat → JOk l := fun l pl ld => jok200 pl (by
    rw [Int.toNat_natCast] at ld
    have := Nat.le_of_dvd m1 ld
    omega)
  have co' : TM.Cop ((m : Nat) : Int).toNat q := by rw [Int.toNat_natCast]; exact co
  have cw : TM.Cop ((m : Nat) : Int).toNat (q ^ k) := by rw [Int.toNat_natCast]; exact co.powR k
  have mo : ModOk p q (m : Int) := ⟨ro, by omega, by omega, co', jo⟩
  have mw : ModOk (TM.V p q k) (q ^ k) (m : Int) := ⟨wo, by omega, by omega, cw, jo⟩
  obtain ⟨r, hr, rs⟩ := rk_ex (p := p) (by omega) m1 co fun l pl ld => ⟨jo l pl (by rw [Int.toNat_natCast]; exact ld), Nat.le_of_dvd m1 ld⟩
  have mm : m * m ≤ 40000 := Nat.mul_le_mul m2 m2
  have emm : (m : Int) * (m : Int) = ((m * m : Nat) : Int) := by rw [Int.natCast_mul]
  have r0 := hr.pos
  unfold rd_law_k66_1f_14; walk_at "tq"
  simp only [S__law_first]
  rw [emm]
  refine ⟨.l ⟨by omega, by omega⟩, ⟨by omega, by omega⟩, ⟨by omega, by omega⟩, by omega, by omega, by omega, fun r' hr' => ?_⟩
  rw [Int.toNat_natCast, Int.toNat_natCast] at hr'
  rw [fst_of hr rs hr']
  have six : rd_law_k66_1f_16 ⟨KK, rt, bk, KK⟩ (e66 scr z p q k a2 a7 a8 a10 a11 (.d (.int (m : Nat))) a13 (.d (.int (r : Nat)))) := by
    unfold rd_law_k66_1f_16 rd_law_k66_1f_16a_0; walk_at "tq"
    simp only [S_round_of]
    refine ⟨mo, fun s hs _ => ?_⟩
    rw [Int.toNat_natCast] at hs
    rw [trD_at (show k < 300 by omega)]; walk_at "tq"
    refine ⟨fun u0 => ⟨mw, fun t ht _ => ?_⟩, fun u0 => ?_⟩
    · rw [Int.toNat_natCast] at ht
      have tp := ht.pos
      have td := TM.each_rnd hs ht (cu u0)
      refine ⟨by omega, fun y => absurd ?_ y, fun _ => hK _⟩
      rw [← Int.natCast_emod, Nat.mod_eq_zero_of_dvd td]; rfl
    · refine ⟨by decide, fun y => absurd ?_ y, fun _ => hK _⟩
      exact Int.emod_one _
  unfold rd_law_k66_1f_15 rd_law_k66_1f_15a_0; walk_at "tq"
  rw [trD_at (show k < 300 by omega)]; walk_at "tq"
  refine ⟨fun u0 => ?_, fun _ => six⟩
  simp only [S_first_place, S__law_common]
  refine ⟨wo, by omega, by omega, cw, jo, fun s hs _ => ?_⟩
  rw [Int.toNat_natCast] at hs
  have es := hs.unique (TM.each_rk k1 hr (cu u0))
  rw [Int.gcd_natCast_natCast]
  have g0 : 0 < Nat.gcd r k := Nat.gcd_pos_of_pos_left _ r0
  have g1 : Nat.gcd r k ≤ k := Nat.gcd_le_right _ k1
  walk_at "tq"
  refine ⟨cdw (by omega) (by omega), ?_⟩
  rw [← Int.natCast_ediv, es]
  refine same_sem trivial trivial fun b hb => ?_
  rw [hb.mpr rfl]
  exact ⟨fun y => (nomatch y), fun _ => six⟩
theorem k66_D {scr z : D} {p q : Int} {k N : Nat} {rt : D → SE → Prop} {KK bk : SE → Prop} {a2 a7 a8 a10 a11 a12 a13 a14 : Sl} (C : K66 p q k) (tz : TinOk N z) (tN : N < 100000)
    (hK : ∀ z' b10 b11 b12 b13 b14, TinOk (N + 3) z' → KK (e66 scr z' p q k a2 a7 a8 b10 b11 b12 b13 b14)) :
    rd_law_k66_1f_9 ⟨KK, rt, bk, KK⟩ (e66 scr z p q k a2 a7 a8 a10 a11 a12 a13 a14) := by
  have k1 := C.k1
  have k6 := C.k6
  have ro := C.ro
  have wo := C.wo
  have ro' := ro
  unfold RuleOk at ro'
  unfold rd_law_k66_1f_9; walk_at "tq"
  simp only [S__law_take]
  refine ⟨⟨by decide, by decide, by decide⟩, by decide, by decide, N, by omega, tz, fun n z1 n0 n1 tz1 => ⟨⟨by decide, by decide, by decide⟩, by decide, by decide, N + 1, by omega, tz1, fun m z2 m0 m1 tz2 => ?_⟩⟩
  have n1 : n < 100000000000000000 := n1
  have m1 : m < 1000000000000 := m1
  obtain ⟨n, rfl⟩ : ∃ t : Nat, n = t := ⟨n.toNat, by omega⟩
  obtain ⟨m, rfl⟩ : ∃ t : Nat, m = t := ⟨m.toNat, by omega⟩
  rw [show (1 : Int) + (m : Nat) = ((m + 1 : Nat) : Int) by omega]
  generalize hm : m + 1 = m'
  have ekn : (k : Int) * (n : Int) = ((k * n : Nat) : Int) := by rw [Int.natCast_mul]
  have kn9 : k * n ≤ 6 * 100000000000000000 := Nat.mul_le_mul k6 (by omega)
  have f1 : FarOk (n : Int) (m' : Int) := ⟨by omega, by omega, by omega, by omega⟩
  have f2 : FarOk ((k * n : Nat) : Int) (m' : Int) := ⟨by omega, by omega, by omega, by omega⟩
  have us := TM.U_size (p := p) (q := q) ⟨by omega, by omega⟩ ⟨by omega, by omega⟩ k
  unfold rd_law_k66_1f_10 rd_law_k66_1f_10a_0; walk_at "tq"
  rw [trD_at (show k < 300 by omega)]; walk_at "tq"
  simp only [S_term_rest]
  refine ⟨wo, f1, ?_⟩
  rw [Int.toNat_natCast]; walk_at "tq"
  have sU : Sz 60 (TM.U p q k) := by
    have h1 : 2 ^ (10 * k) ≤ 2 ^ 60 := Nat.pow_le_pow_right (by decide) (by omega)
    have h2 : (TM.U p q k).natAbs ≤ 1001 ^ k := by
      have := (TM.U_size0 (p := p) (q := q) ⟨by omega, by omega⟩ ⟨by omega, by omega⟩ k).1
      omega
    have h3 : 1001 ^ k ≤ 1001 ^ 6 := Nat.pow_le_pow_right (by decide) k6
    unfold Sz
    have h4 : 1001 ^ 6 < 2 ^ 60 := by decide
    omega
  refine ⟨.sz (a := 60) (b := 60) sU (Sz.mod (.of (by omega) (by omega)) (by omega)), by omega, ?_⟩
  rw [ekn]
  refine ⟨.l ⟨by omega, by omega⟩, ro, f2, ?_⟩
  rw [Int.toNat_natCast]
  have e1 : TM.U p q k * urest (TM.V p q k) (q ^ k) n (m' : Int) % (m' : Int) = urest p q (k * n) (m' : Int) := by
    unfold urest
    rw [TM.U_mulV]
    apply em_eq
    obtain ⟨a, ha⟩ := dvd_em (TM.U (TM.V p q k) (q ^ k) n) (m' : Int)
    exact ⟨- a * TM.U p q k, by grind⟩
  rw [e1]
  refine ⟨fun y => absurd rfl y, fun _ => ?_⟩
  unfold rd_law_k66_1f_11 rd_law_k66_1f_11a_0; walk_at "tq"
  simp only [S_companion_rest]
  rw [ekn]
  refine ⟨wo, f1, .l ⟨by omega, by omega⟩, ro, f2, ?_⟩
  rw [Int.toNat_natCast, Int.toNat_natCast]
  have e2 : vrest (TM.V p q k) (q ^ k) n (m' : Int) = vrest p q (k * n) (m' : Int) := by unfold vrest; rw [TM.V_mulV]
  rw [e2]
  refine same_sem trivial trivial fun b hb => ?_
  rw [hb.mpr rfl]
  refine ⟨fun y => (nomatch y), fun _ => ?_⟩
  have next : ∀ ks : List Nat, ks ≠ [] → ks.length ≤ 200 → (∀ j ∈ ks, 1 ≤ j ∧ j ≤ 200 ∧ TM.Cop j q ∧ (TM.U p q k ≠ 0 → TM.Cop j (TM.U p q k)) ∧ (TM.U p q k = 0 → j = 1)) → ∀ b11, rd_law_k66_1f_13 ⟨KK, rt, bk, KK⟩ (e66 scr z2 p q k a2 a7 a8 (.d (.int (n : Nat))) b11 (.d (.int (m' : Nat))) (.d (.lst (ks.map fun k => D.int (k : Nat)))) a14) := by
    intro ks kn kl hks b11
    unfold rd_law_k66_1f_13; walk_at "tq"
    simp only [S__law_of]
    refine ⟨fun w => kn (List.map_eq_nil_iff.mp w), by rw [List.length_map]; omega, N + 2, by omega, tz2, fun x z3 hx tz3 => ?_⟩
    obtain ⟨j, hj, rfl⟩ := List.mem_map.mp hx
    obtain ⟨j1, j2, c1, c2, c3⟩ := hks j hj
    exact k66_F C j1 j2 c1 c2 c3 fun b14 => hK _ _ _ _ _ _ tz3
  unfold rd_law_k66_1f_12; walk_at "tq"
  rw [trD_at (show k < 300 by omega)]; walk_at "tq"
  refine ⟨fun u0 => ⟨by decide, by rw [rgD_len]; decide, ?_⟩, fun u0 => ?_⟩
  · refine lc_inv (fun i acc E => E = e66 scr z2 p q k a2 a7 a8 (.d (.int (n : Nat))) .no (.d (.int (m' : Nat))) a13 a14 ∧ ∃ ks : List Nat, acc = ks.map (fun k => D.int (k : Nat)) ∧ ks.length ≤ i ∧ (0 < i → ks ≠ []) ∧ ∀ j ∈ ks, 1 ≤ j ∧ j ≤ 200 ∧ TM.Cop j q ∧ (TM.U p q k ≠ 0 → TM.Cop j (TM.U p q k)) ∧ (TM.U p q k = 0 → j = 1)) ⟨rfl, [], rfl, by simp, by simp, by simp⟩ ?_ ?_
    · rintro i x acc E K2 hx ⟨rfl, ks, rfl, hkl, hk0, hks⟩ hK2
      obtain ⟨il, rfl⟩ := rgD_get hx
      have il : i < 149 := il
      have ek : (1 : Int) + (i : Int) * 1 = ((i + 1 : Nat) : Int) := by omega
      rw [ek]
      walk_at "tq"
      rw [trD_at (show k < 300 by omega)]; walk_at "tq"
      simp only [S__law_common]
      refine ⟨.l ⟨by omega, by omega⟩, fun y => hK2 _ _ ⟨rfl, ks ++ [i + 1], by simp, by simp; omega, fun _ => by simp, fun j hj => ?_⟩, fun y => hK2 _ _ ⟨rfl, ks, rfl, by omega, fun _ => ?_, hks⟩⟩
      · rcases List.mem_append.mp hj with w | w
        · exact hks j w
        · rw [List.mem_singleton] at w
          subst w
          have cg : TM.Cop (i + 1) (q * TM.U p q k) := by
            have : Int.gcd ((i + 1 : Nat) : Int) (q * TM.U p q k) = Nat.gcd (i + 1) (q * TM.U p q k).natAbs := rfl
            show Nat.gcd (i + 1) (q * TM.U p q k).natAbs = 1
            rw [← this]
            omega
          unfold TM.Cop at cg
          rw [Int.natAbs_mul] at cg
          exact ⟨by omega, by omega, Nat.Coprime.coprime_mul_right_right cg, fun _ => Nat.Coprime.coprime_mul_left_right cg, fun z => absurd z u0⟩
      · by_cases zi : i = 0
        · subst zi
          exfalso
          apply y
          have : Int.gcd ((0 + 1 : Nat) : Int) (q * TM.U p q k) = Nat.gcd 1 (q * TM.U p q k).natAbs := rfl
          rw [this, Nat.gcd_one_left]; rfl
        · exact hk0 (by omega)
    · rintro acc E ⟨rfl, ks, rfl, hkl, hk0, hks⟩
      have hkl : ks.length ≤ 149 := hkl
      walk_at "tq"
      exact next ks (hk0 (by rw [rgD_len]; decide)) (by omega) hks _
  · exact next [1] (by simp) (by decide) (fun j hj => by
      rw [List.mem_singleton] at hj
      subst hj
      exact ⟨by decide, by decide, Nat.coprime_one_left _, fun y => absurd u0 y, fun _ => rfl⟩) _
theorem k66_turn {scr z : D} {p q : Int} {k N : Nat} {rt : D → SE → Prop} {KK bk : SE → Prop} {a2 a7 a8 a10 a11 a12 a13 a14 : Sl} (C : K66 p q k) (tz : TinOk N z) (tN : N < 100000)
    (hK : ∀ z' b10 b11, TinOk (N + 2) z' → KK (e66 scr z' p q k a2 a7 a8 b10 b11 a12 a13 a14)) :
    rd_law_k66_1f_8f_0 ⟨KK, rt, bk, KK⟩ (e66 scr z p q k a2 a7 a8 a10 a11 a12 a13 a14) := by
  have k1 := C.k1
  have k6 := C.k6
  have ro := C.ro
  have wo := C.wo
  have ro' := ro
  unfold RuleOk at ro'
  unfold rd_law_k66_1f_8f_0; walk_at "tq"
  simp only [S__law_take]
  refine ⟨by decide, by decide, N, by omega, tz, fun n z1 n0 n1 tz1 => ⟨by decide, by decide, N + 1, by omega, tz1, fun j z2 j0 j1 tz2 => ?_⟩⟩
  obtain ⟨n, rfl⟩ : ∃ t : Nat, n = t := ⟨n.toNat, by omega⟩
  obtain ⟨j, rfl⟩ : ∃ t : Nat, j = t := ⟨j.toNat, by omega⟩
  have ekn : (k : Int) * (n : Int) = ((k * n : Nat) : Int) := by rw [Int.natCast_mul]
  have ekj : (k : Int) * (j : Int) = ((k * j : Nat) : Int) := by rw [Int.natCast_mul]
  have kn9 : k * n ≤ 6 * 39 := Nat.mul_le_mul k6 (by omega)
  have kj9 : k * j ≤ 6 * 39 := Nat.mul_le_mul k6 (by omega)
  have mk : ∀ x : Nat, x < 40 → MulOk (k : Int) (x : Int) := fun x hx => .l ⟨by omega, by omega⟩
  have sU : Wd (TM.U p q k) := by
    have h2 : (TM.U p q k).natAbs ≤ 1001 ^ k := by
      have := (TM.U_size0 (p := p) (q := q) ⟨by omega, by omega⟩ ⟨by omega, by omega⟩ k).1
      omega
    have h3 : 1001 ^ k ≤ 1001 ^ 6 := Nat.pow_le_pow_right (by decide) k6
    have h4 : 1001 ^ 6 < 2 ^ 60 := by decide
    unfold Wd
    omega
  have eT : TM.U p q k * TM.U (TM.V p q k) (q ^ k) n = TM.U p q (k * n) := (TM.U_mulV p q k n).symm
  have two : rd_law_k66_1f_8f_2 ⟨KK, rt, bk, KK⟩ (e66 scr z2 p q k a2 a7 a8 (.d (.int (n : Nat))) (.d (.int (j : Nat))) a12 a13 a14) := by
    unfold rd_law_k66_1f_8f_2; walk_at "tq"
    rw [trD_at (show k < 300 by omega)]; walk_at "tq"
    refine ⟨fun u0 => ?_, fun _ => hK _ _ _ tz2⟩
    have one : rd_law_k66_1f_8f_2a_1 ⟨KK, rt, bk, KK⟩ (e66 scr z2 p q k a2 a7 a8 (.d (.int (n : Nat))) (.d (.int (j : Nat))) a12 a13 a14) := by
      unfold rd_law_k66_1f_8f_2a_1 rd_law_k66_1f_8f_2a_1a_0; walk_at "tq"
      simp only [S_common_terms]
      rw [trD_at (show k < 300 by omega)]; walk_at "tq"
      refine ⟨wo, by omega, by omega, by omega, by omega, ?_⟩
      rw [abs_eq, ekn, ekj, Int.toNat_natCast, Int.toNat_natCast, Int.toNat_natCast, Int.toNat_natCast]
      refine ⟨.r ⟨by unfold Wd at sU; omega, by unfold Wd at sU; omega⟩, mk n (by omega), mk j (by omega), ro, by omega, by omega, by omega, by omega, ?_⟩
      refine same_sem trivial trivial fun b hb => ?_
      rw [hb.mpr (by
        rw [← Int.natCast_mul, TM.U_mulV, TM.U_mulV, Int.gcd_mul_left, Nat.mul_comm])]
      exact ⟨fun y => (nomatch y), fun _ => hK _ _ _ tz2⟩
    unfold rd_law_k66_1f_8f_2a_0 rd_law_k66_1f_8f_2a_0a_0; walk_at "tq"
    simp only [S_quotient, S_term]
    rw [Int.toNat_natCast, Int.toNat_natCast, ekn, Int.toNat_natCast]
    refine ⟨ro, by omega, by omega, by omega, by omega, u0, fun x hx => ⟨wo, by omega, by omega, ?_⟩⟩
    refine same_sem trivial trivial fun b hb => ?_
    rw [hb.mpr (by
      congr 1
      rw [← eT, Int.mul_comm] at hx
      exact Int.eq_of_mul_eq_mul_left u0 hx)]
    exact ⟨fun y => (nomatch y), fun _ => one⟩
  unfold rd_law_k66_1f_8f_1 rd_law_k66_1f_8f_1a_0; walk_at "tq"
  rw [trD_at (show k < 300 by omega)]; walk_at "tq"
  simp only [S_term, S_companion]
  rw [ekn]
  refine ⟨wo, by omega, by omega, .l sU, mk n (by omega), ?_⟩
  rw [trD_at (show k * n < 300 by omega), Int.toNat_natCast]; walk_at "tq"
  rw [eT]
  refine ⟨fun y => absurd rfl y, fun _ => ⟨wo, by omega, by omega, mk n (by omega), ro, by omega, by omega, ?_⟩⟩
  rw [Int.toNat_natCast, TM.V_mulV]
  refine same_sem trivial trivial fun b hb => ?_
  rw [hb.mpr rfl]
  exact ⟨fun y => (nomatch y), fun _ => two⟩
theorem k66_B {scr z : D} {p q : Int} {k N : Nat} {rt : D → SE → Prop} {KK bk : SE → Prop} {a2 a8 a9 a10 a11 a12 a13 a14 : Sl} (C : K66 p q k) (tz : TinOk N z) (tN : N < 90000)
    (hK : ∀ z' b8 b10 b11 b12 b13 b14, TinOk (N + 20) z' → KK (e66 scr z' p q k a2 (.d (.int (q ^ k))) b8 b10 b11 b12 b13 b14)) :
    rd_law_k66_1f_6 ⟨KK, rt, bk, KK⟩ [.d scr, .o z, a2, .d (.tup [.int p, .int q]), .d (.int (k : Nat)), .d (.lst (trD p q ("v" : Str) 8)), .d (.lst (trD p q ("u" : Str) 300)), .d (.int (q ^ k)), a8, a9, a10, a11, a12, a13, a14] := by
  have k1 := C.k1
  have k6 := C.k6
  have ro := C.ro
  have wo := C.wo
  have ro' := ro
  unfold RuleOk at ro'
  unfold rd_law_k66_1f_6; walk_at "tq"
  rw [trV_at (show k < 8 by omega)]; walk_at "tq"
  unfold rd_law_k66_1f_7 rd_law_k66_1f_7a_0; walk_at "tq"
  simp only [S_is_rule]; rw [decide_eq_true wo]; walk_at "tq"
  simp only [S_discriminant]
  rw [trD_at (show k < 300 by omega)]; walk_at "tq"
  have sU : Sz 60 (TM.U p q k) := by
    have h2 : (TM.U p q k).natAbs ≤ 1001 ^ k := by
      have := (TM.U_size0 (p := p) (q := q) ⟨by omega, by omega⟩ ⟨by omega, by omega⟩ k).1
      omega
    have h3 : 1001 ^ k ≤ 1001 ^ 6 := Nat.pow_le_pow_right (by decide) k6
    have h4 : 1001 ^ 6 < 2 ^ 60 := by decide
    unfold Sz
    omega
  have sW : Wd (TM.U p q k) := by unfold Sz at sU; unfold Wd; omega
  have e1 : TM.disc (TM.V p q k) (q ^ k) = TM.disc p q * TM.U p q k * TM.U p q k := by rw [TM.disc_V, Int.mul_assoc]
  refine ⟨wo, ro, .r sW, .r sW, ?_⟩
  rw [e1]
  refine ⟨fun y => absurd rfl y, fun _ => ?_⟩
  unfold rd_law_k66_1f_8; walk_at "tq"
  refine ⟨by decide, ?_⟩
  refine for_rg (fun i E => ∃ z' b8 b10 b11, TinOk (N + 2 * i) z' ∧ E = e66 scr z' p q k a2 (.d (.int (q ^ k))) b8 b10 b11 a12 a13 a14) ⟨z, _, _, _, tz, rfl⟩ ?_ ?_
  · rintro i E K2 hi ⟨z', b8, b10, b11, tz', rfl⟩ hK2
    have hi : i < 4 := hi
    walk_at "tq"
    exact k66_turn C tz' (by omega) fun z2 c10 c11 tz2 => hK2 _ ⟨z2, _, _, _, tz2.mono (by omega), rfl⟩
  · rintro E ⟨z', b8, b10, b11, tz', rfl⟩
    have tz' : TinOk (N + 8) z' := tz'
    exact k66_D C tz' (by omega) fun z2 c10 c11 c12 c13 c14 tz2 => hK _ _ _ _ _ _ _ (tz2.mono (by omega))
theorem sem_law_k66 (ds : List D) (R : D → Prop) (h : S_law_k66 ds R) : rd_law_k66_0 ⟨fun _ => R .non, fun x _ => R x, fun _ => False, fun _ => False⟩ (stE ["script", "tin", "lap", "rule_so", "k", "vs_so", "us_so", "power_so", "turn", "wide_so", "n", "j", "m", "goods_so", "first_so"] ds) := by
  unfold S_law_k66 at h
  split at h <;> first | exact h.elim | skip
  rename_i ds
  obtain ⟨⟨xs, rfl⟩, h⟩ := h
  unfold rd_law_k66_0; walk_at "tq"
  simp only [S__law_cells]
  refine ⟨⟨xs, rfl⟩, by decide, by decide, fun ys yn => ?_⟩
  simp only [S__law_box]
  refine ⟨⟨ys, yn, rfl⟩, by decide, by decide, fun z tz => ?_⟩
  unfold rd_law_k66_1; walk_at "tq"
  refine ⟨by decide, ?_⟩
  refine for_rg (fun i E => ∃ z' b2 b3 b4 b5 b6 b7 b8 b9 b10 b11 b12 b13 b14, TinOk (1000 * i) z' ∧ E = [.d (.lst (xs.map D.int)), .o z', b2, b3, b4, b5, b6, b7, b8, b9, b10, b11, b12, b13, b14]) ⟨z, _, _, _, _, _, _, _, _, _, _, _, _, _, tz, rfl⟩ ?_ ?_
  · rintro i' E KK hi ⟨z', b2, b3, b4, b5, b6, b7, b8, b9, b10, b11, b12, b13, b14, tz', rfl⟩ hK
    have hi : i' < 3 := hi
    walk_at "tq"
    unfold rd_law_k66_1f_0; walk_at "tq"
    simp only [S__law_rule]
    refine ⟨by decide, by decide, 1000 * i', by omega, tz', fun p q z2 p0 p1 q0 q1 qn tz2 => ?_⟩
    have ro : RuleOk p q := by unfold RuleOk; omega
    simp only [rl]
    unfold rd_law_k66_1f_1; walk_at "tq"
    simp only [S__law_take]
    refine ⟨by decide, by decide, 1000 * i' + 3, by omega, tz2, fun k z3 k0 k1 tz3 => ?_⟩
    obtain ⟨k, rfl⟩ : ∃ t : Nat, k = t := ⟨k.toNat, by omega⟩
    rw [show (1 : Int) + (k : Nat) = ((k + 1 : Nat) : Int) by omega]
    generalize hk : k + 1 = k'
    have wd : Wd p ∧ Wd q := by unfold Wd; omega
    unfold rd_law_k66_1f_2; walk_at "tq"
    simp only [S__law_vs, S__law_us]
    refine ⟨wd.1, wd.2, by decide, by decide, wd.1, wd.2, by decide, by decide, ?_⟩
    rw [show (8 : Int).toNat = 8 from rfl, show (300 : Int).toNat = 300 from rfl]
    walk_at "tq"
    have fin : ∀ (k : Nat), K66 p q k → ∀ b8 b9 b10 b11 b12 b13 b14, rd_law_k66_1f_6 ⟨KK, fun x _ => R x, fun E => rd_law_k66_2 ⟨fun _ => R .non, fun x _ => R x, fun _ => False, fun _ => False⟩ E, KK⟩ [.d (.lst (xs.map D.int)), .o z3, .d (.int (0 + (i' : Nat))), .d (.tup [.int p, .int q]), .d (.int (k : Nat)), .d (.lst (trD p q ("v" : Str) 8)), .d (.lst (trD p q ("u" : Str) 300)), .d (.int (q ^ k)), b8, b9, b10, b11, b12, b13, b14] := fun k C b8 b9 b10 b11 b12 b13 b14 =>
      k66_B C tz3 (by omega) fun z4 c8 c10 c11 c12 c13 c14 tz4 => hK _ ⟨z4, _, _, _, _, _, _, _, _, _, _, _, _, _, tz4.mono (by omega), rfl⟩
    have p36 : p * p ≤ 36 ∧ 0 ≤ p * p := by
      have h1 : p * p = ((p.natAbs * p.natAbs : Nat) : Int) := by rw [Int.natCast_mul, Int.natAbs_mul_self']
      have h2 : p.natAbs * p.natAbs ≤ 6 * 6 := Nat.mul_le_mul (by omega) (by omega)
      omega
    have q36 : q * q ≤ 36 ∧ 0 < q * q := by
      have h1 : q * q = ((q.natAbs * q.natAbs : Nat) : Int) := by rw [Int.natCast_mul, Int.natAbs_mul_self']
      have h2 : q.natAbs * q.natAbs ≤ 6 * 6 := Nat.mul_le_mul (by omega) (by omega)
      have h3 : 0 < q.natAbs * q.natAbs := Nat.mul_pos (by omega) (by omega)
      omega
    have C1 : K66 p q 1 := ⟨ro, by decide, by decide, by
      have e1 : TM.V p q 1 = p := rfl
      rw [e1, Int.pow_succ, Int.pow_zero, Int.one_mul]
      exact ro⟩
    have C2 : K66 p q 2 := ⟨ro, by decide, by decide, by
      have e1 : TM.V p q 2 = p * p - q * 2 := rfl
      rw [e1, Int.pow_succ, Int.pow_succ, Int.pow_zero, Int.one_mul]
      unfold RuleOk
      omega⟩
    unfold rd_law_k66_1f_3; walk_at "tq"
    unfold rd_law_k66_1f_4; walk_at "tq"
    refine ⟨⟨by omega, by omega⟩, ?_⟩
    refine for_rg (fun i E => ∃ b8, E = [.d (.lst (xs.map D.int)), .o z3, .d (.int (0 + (i' : Nat))), .d (.tup [.int p, .int q]), .d (.int (k' : Nat)), .d (.lst (trD p q ("v" : Str) 8)), .d (.lst (trD p q ("u" : Str) 300)), .d (.int (q ^ i)), b8, b9, b10, b11, b12, b13, b14]) ⟨_, by rw [Int.pow_zero]⟩ ?_ ?_
    · rintro i E K2 hi ⟨b8, rfl⟩ hK2
      walk_at "tq"
      unfold rd_law_k66_1f_4f_0; walk_at "tq"
      refine ⟨.r wd.2, ?_⟩
      rw [← Int.pow_succ]
      exact hK2 _ ⟨_, rfl⟩
    · rintro E ⟨b8, rfl⟩
      rw [Int.toNat_natCast]
      have a5 : rd_law_k66_1f_5a_0 ⟨fun E => rd_law_k66_1f_6 ⟨KK, fun x _ => R x, fun E => rd_law_k66_2 ⟨fun _ => R .non, fun x _ => R x, fun _ => False, fun _ => False⟩ E, KK⟩ E, fun x _ => R x, fun E => rd_law_k66_2 ⟨fun _ => R .non, fun x _ => R x, fun _ => False, fun _ => False⟩ E, KK⟩ [.d (.lst (xs.map D.int)), .o z3, .d (.int (0 + (i' : Nat))), .d (.tup [.int p, .int q]), .d (.int (k' : Nat)), .d (.lst (trD p q ("v" : Str) 8)), .d (.lst (trD p q ("u" : Str) 300)), .d (.int (q ^ k')), b8, b9, b10, b11, b12, b13, b14] := by
        unfold rd_law_k66_1f_5a_0; walk_at "tq"
        refine ⟨by decide, by decide, fun y => ?_, fun y => ⟨.r wd.2, ?_⟩⟩
        · have := fin 1 C1 b8 b9 b10 b11 b12 b13 b14
          rw [Int.pow_succ, Int.pow_zero, Int.one_mul] at this
          rw [y]
          exact this
        · have := fin 2 C2 b8 b9 b10 b11 b12 b13 b14
          rw [Int.pow_succ, Int.pow_succ, Int.pow_zero, Int.one_mul] at this
          rw [show (k' : Int) % 2 = 1 by omega]
          exact this
      unfold rd_law_k66_1f_5; walk_at "tq"
      rw [trV_at (show k' < 8 by omega)]; walk_at "tq"
      rw [abs_eq, abs_eq]
      refine ⟨fun _ => a5, fun y1 => ⟨fun _ => a5, fun y2 => ?_⟩⟩
      have q0 : q ^ k' ≠ 0 := Int.pow_ne_zero qn
      exact fin k' ⟨ro, by omega, by omega, by unfold RuleOk; omega⟩ _ _ _ _ _ _ _
  · rintro E ⟨z', b2, b3, b4, b5, b6, b7, b8, b9, b10, b11, b12, b13, b14, tz', rfl⟩
    unfold rd_law_k66_2; walk_at "tq"
    exact h

theorem len_of_law_k66 {ds : List D} {R : D → Prop} (h : S_law_k66 ds R) : ds.length = 1 := by
  unfold S_law_k66 at h
  first | exact h.elim | (split at h <;> first | rfl | exact h.elim)
end TQ
namespace TQ
open PySem PySem.Spec PyProof.Rows L2
def top (i : Nat) : Stmt := PySem.Challenge.pw_termsdivide_k66_across_each_so_many_th_t.main.body.getD i (.Pass ⟨0, 0, 0, 0⟩)
section
variable {P : Program} {w : World} {K : PySem.W.Frag} {mg : Str → Option Value} {base : Heap}
theorem sc_is_number : FnScope ["thing"] ["thing"] (defScope (top 4)) := ⟨rfl, rfl, rfl, by decide +kernel, rfl, by decide +kernel, by decide +kernel⟩
theorem ok_is_number {f : Addr} {fd : FuncData} (F : Fun K "is_number" "is_number" (top 4) f fd) (z_isinstance : mg "isinstance" = none) (z_int : mg "int" = none) (z_bool : mg "bool" = none) : FnOk P w K mg base CX0 1 f fd ["thing"] (spF K S_is_number) :=
  fn_F rfl F sc_is_number (fun ds R h => len_of_is_number h) (fun cdv A outer s H E hr => by
    have nd := sc_is_number.nd
    exact (show PSts _ .d _ rd_is_number_0 from (pst_one (pst_ret (pv_and (pv_isi z_isinstance (by decide +kernel) z_int (by decide +kernel) kn_int (pv_var 0)) (pv_one (pv_not (pv_isi z_isinstance (by decide +kernel) z_bool (by decide +kernel) kn_bool (pv_var 0))))))))) sem_is_number
theorem sc_is_within : FnScope ["thing", "least", "most"] ["thing", "least", "most"] (defScope (top 5)) := ⟨rfl, rfl, rfl, by decide +kernel, rfl, by decide +kernel, by decide +kernel⟩
theorem ok_is_within {f : Addr} {fd : FuncData} (F : Fun K "is_within" "is_within" (top 5) f fd) (c_is_number : Cal P w K mg base 1 "is_number" ["thing"] (spF K S_is_number)) : FnOk P w K mg base CX0 2 f fd ["thing", "least", "most"] (spF K S_is_within) :=
  fn_F rfl F sc_is_within (fun ds R h => len_of_is_within h) (fun cdv A outer s H E hr => by
    have nd := sc_is_within.nd
    exact (show PSts _ .d _ rd_is_within_0 from (pst_one (pst_ret (pv_and (pv_call c_is_number (hr.mono (by decide)) (par_cons (pv_var 0) par_nil)) (pv_one (pv_chain op_le o2_le op_le o2_le (pv_var 1) (pv_var 0) (pv_var 2)))))))) sem_is_within
theorem sc_is_long : FnScope ["thing", "length"] ["thing", "length"] (defScope (top 6)) := ⟨rfl, rfl, rfl, by decide +kernel, rfl, by decide +kernel, by decide +kernel⟩
theorem ok_is_long {f : Addr} {fd : FuncData} (F : Fun K "is_long" "is_long" (top 6) f fd) (z_isinstance : mg "isinstance" = none) (z_tuple : mg "tuple" = none) (z_len : mg "len" = none) : FnOk P w K mg base CX0 1 f fd ["thing", "length"] (spF K S_is_long) :=
  fn_F rfl F sc_is_long (fun ds R h => len_of_is_long h) (fun cdv A outer s H E hr => by
    have nd := sc_is_long.nd
    exact (show PSts _ .d _ rd_is_long_0 from (pst_one (pst_ret (pv_and (pv_isi z_isinstance (by decide +kernel) z_tuple (by decide +kernel) kn_tuple (pv_var 0)) (pv_one (pv_cmp op_eq o2_eq (pv_lenN 0 z_len PySem.boot_len) (pv_var 1) (nomark _)))))))) sem_is_long
theorem sc_are_numbers : FnScope ["thing", "own"] ["thing"] (defScope (top 7)) := ⟨rfl, rfl, rfl, by decide +kernel, rfl, by decide +kernel, by decide +kernel⟩
theorem ok_are_numbers {f : Addr} {fd : FuncData} (F : Fun K "are_numbers" "are_numbers" (top 7) f fd) (c_is_number : Cal P w K mg base 1 "is_number" ["thing"] (spF K S_is_number)) (z_isinstance : mg "isinstance" = none) (z_tuple : mg "tuple" = none) (z_all : mg "all" = none) : FnOk P w K mg base CX0 2 f fd ["thing"] (spF K S_are_numbers) :=
  fn_F rfl F sc_are_numbers (fun ds R h => len_of_are_numbers h) (fun cdv A outer s H E hr => by
    have nd := sc_are_numbers.nd
    exact (show PSts _ .d _ rd_are_numbers_0 from (pst_one (pst_ret (pv_and (pv_isi z_isinstance (by decide +kernel) z_tuple (by decide +kernel) kn_tuple (pv_var 0)) (pv_one (pv_blt (cr_all rfl) b_all z_all (by decide +kernel) (par_cons (pv_of (pf_lc [("own", 1)] rfl nd (by kernel_rfl) (pit_tup (pv_var 0)) (fun _ _ _ _ _ => (pgt_name 1 nd)) (fun _ _ _ _ _ => ptst_nil) (fun _ _ _ _ _ => (pv_call c_is_number (hr.mono (by decide)) (par_cons (pv_var 1) par_nil))))) par_nil)))))))) sem_are_numbers
theorem sc_tupled : FnScope ["value", "own"] ["value"] (defScope (top 8)) := ⟨rfl, rfl, rfl, by decide +kernel, rfl, by decide +kernel, by decide +kernel⟩
theorem okr_tupled {f : Addr} {fd : FuncData} (F : Fun K "tupled" "tupled" (top 8) f fd) (z_isinstance : mg "isinstance" = none) (z_list : mg "list" = none) (z_tuple : mg "tuple" = none) (bn : Binds K fd ["value"] []) (kb : KwB fd ["value"]) (mg_ : mg "tupled" = some (.ref f)) : ∀ n : Nat, FnOk P w K mg base CX0 (0 + n + 1) f fd ["value"] (spF K (S_tupledN n))
  | 0 => by
    have c_tupled : Cal P w K mg base 0 "tupled" ["value"] (spF K fun _ _ => False) := ⟨f, fd, none_left, bn, kb, F.kp, mg_⟩
    exact fn_F rfl F sc_tupled (fun ds R h => len_of_tupled h) (fun cdv A outer s H E hr => by
    have nd := sc_tupled.nd
    exact (show PSts _ .d _ (rd_tupled_0 (fun _ _ => False)) from (pst_one (pst_ret (pv_ifE (pt_val' (pv_isi2 z_isinstance (by decide +kernel) z_list (by decide +kernel) z_tuple (by decide +kernel) kn_list kn_tuple (pv_var 0))) (pv_blty call_tuple_of b_tuple z_tuple (by decide +kernel) (par_cons (pv_of (pf_lc [("own", 1)] rfl nd (by kernel_rfl) (pit_tup (pv_var 0)) (fun _ _ _ _ _ => (pgt_name 1 nd)) (fun _ _ _ _ _ => ptst_nil) (fun _ _ _ _ _ => (pv_call c_tupled (hr.mono (by omega)) (par_cons (pv_var 1) par_nil))))) par_nil)) (pv_var 0)))))) (sem_tupled 0 _ (fun _ h => nomatch h))
  | n + 1 => by
    have c_tupled : Cal P w K mg base (0 + n + 1) "tupled" ["value"] (spF K (S_tupledN n)) := ⟨f, fd, okr_tupled F z_isinstance z_list z_tuple bn kb mg_ n, bn, kb, F.kp, mg_⟩
    exact fn_F rfl F sc_tupled (fun ds R h => len_of_tupled h) (fun cdv A outer s H E hr => by
    have nd := sc_tupled.nd
    exact (show PSts _ .d _ (rd_tupled_0 _) from (pst_one (pst_ret (pv_ifE (pt_val' (pv_isi2 z_isinstance (by decide +kernel) z_list (by decide +kernel) z_tuple (by decide +kernel) kn_list kn_tuple (pv_var 0))) (pv_blty call_tuple_of b_tuple z_tuple (by decide +kernel) (par_cons (pv_of (pf_lc [("own", 1)] rfl nd (by kernel_rfl) (pit_tup (pv_var 0)) (fun _ _ _ _ _ => (pgt_name 1 nd)) (fun _ _ _ _ _ => ptst_nil) (fun _ _ _ _ _ => (pv_call c_tupled (hr.mono (by omega)) (par_cons (pv_var 1) par_nil))))) par_nil)) (pv_var 0)))))) (sem_tupled (n + 1) _ (fun m h => by cases h; rfl))
theorem sc_sure_within : FnScope ["thing", "least", "most"] ["thing", "least", "most"] (defScope (top 9)) := ⟨rfl, rfl, rfl, by decide +kernel, rfl, by decide +kernel, by decide +kernel⟩
theorem ok_sure_within {f : Addr} {fd : FuncData} (F : Fun K "sure_within" "sure_within" (top 9) f fd) (c_is_within : Cal P w K mg base 2 "is_within" ["thing", "least", "most"] (spF K S_is_within)) : FnOk P w K mg base CX0 3 f fd ["thing", "least", "most"] (spF K S_sure_within) :=
  fn_F rfl F sc_sure_within (fun ds R h => len_of_sure_within h) (fun cdv A outer s H E hr => by
    have nd := sc_sure_within.nd
    exact (show PSts _ .d _ rd_sure_within_0 from (pst_cons (pst_if (pt_not' (pt_val' (pv_call c_is_within (hr.mono (by decide)) (par_cons (pv_var 0) (par_cons (pv_var 1) (par_cons (pv_var 2) par_nil)))))) (pst_one pst_never) pst_nil)
  (pst_one (pst_ret (pv_var 0)))))) sem_sure_within
theorem sc_common : FnScope ["one", "other"] ["one", "other"] (defScope (top 10)) := ⟨rfl, rfl, rfl, by decide +kernel, rfl, by decide +kernel, by decide +kernel⟩
theorem ok_common {f : Addr} {fd : FuncData} (F : Fun K "common" "common" (top 10) f fd) (z_abs : mg "abs" = none) : FnOk P w K mg base CX0 1 f fd ["one", "other"] (spF K S_common) :=
  fn_F rfl F sc_common (fun ds R h => len_of_common h) (fun cdv A outer s H E hr => by
    have nd := sc_common.nd
    exact (show PSts _ .d _ rd_common_0 from (pst_cons (pst_par 0 1 rfl nd (par_cons (pv_blt call_abs b_abs z_abs (by decide +kernel) (par_cons (pv_var 0) par_nil)) (par_cons (pv_blt call_abs b_abs z_abs (by decide +kernel) (par_cons (pv_var 1) par_nil)) par_nil)))
  (pst_cons (pst_while (pt_cmp' op_ne o2_ne (pv_var 1) pv_int (nomark _)) (pst_one (pst_par 0 1 rfl nd (par_cons (pv_var 1) (par_cons (pv_bin op_mod o2_mod (pv_var 0) (pv_var 1)) par_nil)))))
  (pst_one (pst_ret (pv_var 0))))))) sem_common
theorem sc_lcm : FnScope ["one", "other"] ["one", "other"] (defScope (top 11)) := ⟨rfl, rfl, rfl, by decide +kernel, rfl, by decide +kernel, by decide +kernel⟩
theorem ok_lcm {f : Addr} {fd : FuncData} (F : Fun K "lcm" "lcm" (top 11) f fd) (c_common : Cal P w K mg base 1 "common" ["one", "other"] (spF K S_common)) : FnOk P w K mg base CX0 2 f fd ["one", "other"] (spF K S_lcm) :=
  fn_F rfl F sc_lcm (fun ds R h => len_of_lcm h) (fun cdv A outer s H E hr => by
    have nd := sc_lcm.nd
    exact (show PSts _ .d _ rd_lcm_0 from (pst_one (pst_ret (pv_bin op_mulA o2_mul (pv_bin op_fdivW o2_div (pv_var 0) (pv_call c_common (hr.mono (by decide)) (par_cons (pv_var 0) (par_cons (pv_var 1) par_nil)))) (pv_var 1)))))) sem_lcm
theorem sc_primes_of : FnScope ["number", "found", "left", "prime", "often"] ["number"] (defScope (top 12)) := ⟨rfl, rfl, rfl, by decide +kernel, rfl, by decide +kernel, by decide +kernel⟩
theorem ok_primes_of {f : Addr} {fd : FuncData} (F : Fun K "primes_of" "primes_of" (top 12) f fd) (z_tuple : mg "tuple" = none) : FnOk P w K mg base CX0 1 f fd ["number"] (spF K S_primes_of) :=
  fn_F rfl F sc_primes_of (fun ds R h => len_of_primes_of h) (fun cdv A outer s H E hr => by
    have nd := sc_primes_of.nd
    exact (show PSts _ .d _ rd_primes_of_0 from (pst_cons (pst_parO3 1 2 3 rfl nd (pf_lst par_nil) (par_cons (pv_var 0) (par_cons pv_int par_nil)))
  (pst_cons (pst_while (pt_cmp' op_le o2_le (pv_bin op_mulA o2_mul (pv_var 3) (pv_var 3)) (pv_var 2) (nomark _)) (pst_cons (pst_set 4 nd pv_int)
  (pst_cons (pst_while (pt_cmp' op_eq o2_eq (pv_bin op_mod o2_mod (pv_var 2) (pv_var 3)) pv_int (nomark _)) (pst_one (pst_par 2 4 rfl nd (par_cons (pv_bin op_fdivW o2_div (pv_var 2) (pv_var 3)) (par_cons (pv_bin op_add o2_add (pv_var 4) pv_int) par_nil)))))
  (pst_cons (pst_if (pt_cmp' op_gt o2_gt (pv_var 4) pv_int (nomark _)) (pst_one (pst_app 1 (pv_tup (par_cons (pv_var 3) (par_cons (pv_var 4) par_nil))) (hp := fun h => pe_bm PySem.F.plainAttrs_list PySem.F.slot_list_append PySem.F.type_list_append mt_append (pv 1) h))) pst_nil)
  (pst_one (pst_set 3 nd (pv_bin op_add o2_add (pv_var 3) (pv_ifE (pt_cmp' op_eq o2_eq (pv_var 3) pv_int (nomark _)) pv_int pv_int))))))))
  (pst_one (pst_ret (pv_blty call_tuple_of b_tuple z_tuple (by decide +kernel) (par_cons (pv_of (pf_cat (pv_var 1) (pv_of (pf_ifE (pt_cmp' op_gt o2_gt (pv_var 2) pv_int (nomark _)) (pf_lst (par_cons (pv_tup (par_cons (pv_var 2) (par_cons pv_int par_nil))) par_nil)) (pf_lst par_nil))))) par_nil)))))))) sem_primes_of
theorem sc_power_mod : FnScope ["one", "often", "modulus", "found", "here", "left"] ["one", "often", "modulus"] (defScope (top 13)) := ⟨rfl, rfl, rfl, by decide +kernel, rfl, by decide +kernel, by decide +kernel⟩
theorem ok_power_mod {f : Addr} {fd : FuncData} (F : Fun K "power_mod" "power_mod" (top 13) f fd) : FnOk P w K mg base CX0 1 f fd ["one", "often", "modulus"] (spF K S_power_mod) :=
  fn_F rfl F sc_power_mod (fun ds R h => len_of_power_mod h) (fun cdv A outer s H E hr => by
    have nd := sc_power_mod.nd
    exact (show PSts _ .d _ rd_power_mod_0 from (pst_cons (pst_par3 3 4 5 rfl nd (par_cons (pv_bin op_mod o2_mod pv_int (pv_var 2)) (par_cons (pv_bin op_mod o2_mod (pv_var 0) (pv_var 2)) (par_cons (pv_var 1) par_nil))))
  (pst_cons (pst_while (pt_cmp' op_gt o2_gt (pv_var 5) pv_int (nomark _)) (pst_cons (pst_if (pt_cmp' op_eq o2_eq (pv_bin op_mod o2_mod (pv_var 5) pv_int) pv_int (nomark _)) (pst_one (pst_set 3 nd (pv_bin op_mod o2_mod (pv_bin op_mulA o2_mul (pv_var 3) (pv_var 4)) (pv_var 2)))) pst_nil)
  (pst_one (pst_par 4 5 rfl nd (par_cons (pv_bin op_mod o2_mod (pv_bin op_mulA o2_mul (pv_var 4) (pv_var 4)) (pv_var 2)) (par_cons (pv_bin op_fdivW o2_div (pv_var 5) pv_int) par_nil))))))
  (pst_one (pst_ret (pv_var 3))))))) sem_power_mod
theorem sc_step_order : FnScope ["prime", "often", "found", "lap"] ["prime", "often"] (defScope (top 15)) := ⟨rfl, rfl, rfl, by decide +kernel, rfl, by decide +kernel, by decide +kernel⟩
theorem ok_step_order {f : Addr} {fd : FuncData} (F : Fun K "step_order" "step_order" (top 15) f fd) (z_range : mg "range" = none) : FnOk P w K mg base CX0 1 f fd ["prime", "often"] (spF K S_step_order) :=
  fn_F rfl F sc_step_order (fun ds R h => len_of_step_order h) (fun cdv A outer s H E hr => by
    have nd := sc_step_order.nd
    exact (show PSts _ .d _ rd_step_order_0 from (pst_cons (pst_set 2 nd (pv_bin op_sub o2_sub (pv_var 0) pv_int))
  (pst_cons (pst_for rfl (pit_r1 z_range (par_cons (pv_bin op_sub o2_sub (pv_var 1) pv_int) par_nil)) (pgt_name 3 nd) (pst_one (pst_set 2 nd (pv_bin op_mulA o2_mul (pv_var 2) (pv_var 0)))))
  (pst_one (pst_ret (pv_var 2))))))) sem_step_order
theorem sc_order_in : FnScope ["one", "modulus", "often", "prime", "many"] ["one", "modulus"] (defScope (top 14)) := ⟨rfl, rfl, rfl, by decide +kernel, rfl, by decide +kernel, by decide +kernel⟩
theorem ok_order_in {f : Addr} {fd : FuncData} (F : Fun K "order_in" "order_in" (top 14) f fd) (c_primes_of : Cal P w K mg base 1 "primes_of" ["number"] (spF K S_primes_of)) (c_lcm : Cal P w K mg base 2 "lcm" ["one", "other"] (spF K S_lcm)) (c_step_order : Cal P w K mg base 1 "step_order" ["prime", "often"] (spF K S_step_order)) (c_power_mod : Cal P w K mg base 1 "power_mod" ["one", "often", "modulus"] (spF K S_power_mod)) : FnOk P w K mg base CX0 3 f fd ["one", "modulus"] (spF K S_order_in) :=
  fn_F rfl F sc_order_in (fun ds R h => len_of_order_in h) (fun cdv A outer s H E hr => by
    have nd := sc_order_in.nd
    exact (show PSts _ .d _ rd_order_in_0 from (pst_cons (pst_set 2 nd pv_int)
  (pst_cons (pst_for rfl (pit_tup (pv_call c_primes_of (hr.mono (by decide)) (par_cons (pv_var 1) par_nil))) (pgt_tup rfl (pgts_cons (pgt_name 3 nd) (pgts_cons (pgt_name 4 nd) pgts_nil))) (pst_one (pst_set 2 nd (pv_call c_lcm (hr.mono (by decide)) (par_cons (pv_var 2) (par_cons (pv_call c_step_order (hr.mono (by decide)) (par_cons (pv_var 3) (par_cons (pv_var 4) par_nil))) par_nil))))))
  (pst_cons (pst_for rfl (pit_tup (pv_call c_primes_of (hr.mono (by decide)) (par_cons (pv_var 2) par_nil))) (pgt_tup rfl (pgts_cons (pgt_name 3 nd) (pgts_cons (pgt_name 4 nd) pgts_nil))) (pst_one (pst_while (pt_of_pw (pw_and' (pt_cmp' op_eq o2_eq (pv_bin op_mod o2_mod (pv_var 2) (pv_var 3)) pv_int (nomark _)) (pw_and1' (pt_cmp' op_eq o2_eq (pv_call c_power_mod (hr.mono (by decide)) (par_cons (pv_var 0) (par_cons (pv_bin op_fdivW o2_div (pv_var 2) (pv_var 3)) (par_cons (pv_var 1) par_nil)))) (pv_bin op_mod o2_mod pv_int (pv_var 1)) (nomark _))))) (pst_one (pst_set 2 nd (pv_bin op_fdivW o2_div (pv_var 2) (pv_var 3)))))))
  (pst_one (pst_ret (pv_var 2)))))))) sem_order_in
theorem sc_jacobi_in : FnScope ["one", "odd", "near", "far", "sign"] ["one", "odd"] (defScope (top 16)) := ⟨rfl, rfl, rfl, by decide +kernel, rfl, by decide +kernel, by decide +kernel⟩
theorem ok_jacobi_in {f : Addr} {fd : FuncData} (F : Fun K "jacobi_in" "jacobi_in" (top 16) f fd) : FnOk P w K mg base CX0 1 f fd ["one", "odd"] (spF K S_jacobi_in) :=
  fn_F rfl F sc_jacobi_in (fun ds R h => len_of_jacobi_in h) (fun cdv A outer s H E hr => by
    have nd := sc_jacobi_in.nd
    exact (show PSts _ .d _ rd_jacobi_in_0 from (pst_cons (pst_par3 2 3 4 rfl nd (par_cons (pv_bin op_mod o2_mod (pv_var 0) (pv_var 1)) (par_cons (pv_var 1) (par_cons pv_int par_nil))))
  (pst_cons (pst_while (pt_cmp' op_ne o2_ne (pv_var 2) pv_int (nomark _)) (pst_cons (pst_while (pt_cmp' op_eq o2_eq (pv_bin op_mod o2_mod (pv_var 2) pv_int) pv_int (nomark _)) (pst_cons (pst_set 2 nd (pv_bin op_fdivW o2_div (pv_var 2) pv_int))
  (pst_one (pst_set 4 nd (pv_ifE (pt_cmp' op_in_seq (o2_in false) (pv_bin op_mod o2_mod (pv_var 3) pv_int) (pv_tup (par_cons pv_int (par_cons pv_int par_nil))) (by with_unfolding_all rfl)) (pv_un un_neg o1_neg (pv_var 4)) (pv_var 4))))))
  (pst_cons (pst_par 2 3 rfl nd (par_cons (pv_var 3) (par_cons (pv_var 2) par_nil)))
  (pst_cons (pst_set 4 nd (pv_ifE (pt_of_pw (pw_and' (pt_cmp' op_eq o2_eq (pv_bin op_mod o2_mod (pv_var 2) pv_int) pv_int (nomark _)) (pw_and1' (pt_cmp' op_eq o2_eq (pv_bin op_mod o2_mod (pv_var 3) pv_int) pv_int (nomark _))))) (pv_un un_neg o1_neg (pv_var 4)) (pv_var 4)))
  (pst_one (pst_set 2 nd (pv_bin op_mod o2_mod (pv_var 2) (pv_var 3))))))))
  (pst_one (pst_ret (pv_ifE (pt_cmp' op_eq o2_eq (pv_var 3) pv_int (nomark _)) (pv_var 4) pv_int))))))) sem_jacobi_in
theorem sc_is_rule_in : FnScope ["thing", "own"] ["thing"] (defScope (top 20)) := ⟨rfl, rfl, rfl, by decide +kernel, rfl, by decide +kernel, by decide +kernel⟩
theorem ok_is_rule_in {f : Addr} {fd : FuncData} (F : Fun K "is_rule_in" "is_rule_in" (top 20) f fd) (c_is_long : Cal P w K mg base 1 "is_long" ["thing", "length"] (spF K S_is_long)) (c_are_numbers : Cal P w K mg base 2 "are_numbers" ["thing"] (spF K S_are_numbers)) (z_all : mg "all" = none) (z_abs : mg "abs" = none) (g_MOST_RULE : ∃ t, mg "MOST_RULE" = some (.int 1000 t)) : FnOk P w K mg base CX0 3 f fd ["thing"] (spF K S_is_rule_in) :=
  fn_F rfl F sc_is_rule_in (fun ds R h => len_of_is_rule_in h) (fun cdv A outer s H E hr => by
    have nd := sc_is_rule_in.nd
    exact (show PSts _ .d _ rd_is_rule_in_0 from (pst_one (pst_ret (pv_and (pv_call c_is_long (hr.mono (by decide)) (par_cons (pv_var 0) (par_cons pv_int par_nil))) (pv_and (pv_call c_are_numbers (hr.mono (by decide)) (par_cons (pv_var 0) par_nil)) (pv_and (pv_blt (cr_all rfl) b_all z_all (by decide +kernel) (par_cons (pv_of (pf_lc [("own", 1)] rfl nd (by kernel_rfl) (pit_tup (pv_var 0)) (fun _ _ _ _ _ => (pgt_name 1 nd)) (fun _ _ _ _ _ => ptst_nil) (fun _ _ _ _ _ => (pv_cmp op_le o2_le (pv_blt call_abs b_abs z_abs (by decide +kernel) (par_cons (pv_var 1) par_nil)) (pv_globI rfl g_MOST_RULE) (nomark _))))) par_nil)) (pv_one (pv_cmp op_ne o2_ne (pv_ixN 0 pv_int) pv_int (nomark _)))))))))) sem_is_rule_in
theorem sc_sure_rule : FnScope ["value", "own"] ["value"] (defScope (top 21)) := ⟨rfl, rfl, rfl, by decide +kernel, rfl, by decide +kernel, by decide +kernel⟩
theorem ok_sure_rule {f : Addr} {fd : FuncData} (F : Fun K "sure_rule" "sure_rule" (top 21) f fd) (c_tupled : Cal P w K mg base 9 "tupled" ["value"] (spF K S_tupled)) (c_is_rule_in : Cal P w K mg base 3 "is_rule_in" ["thing"] (spF K S_is_rule_in)) : FnOk P w K mg base CX0 10 f fd ["value"] (spF K S_sure_rule) :=
  fn_F rfl F sc_sure_rule (fun ds R h => len_of_sure_rule h) (fun cdv A outer s H E hr => by
    have nd := sc_sure_rule.nd
    exact (show PSts _ .d _ rd_sure_rule_0 from (pst_cons (pst_set 1 nd (pv_call c_tupled (hr.mono (by decide)) (par_cons (pv_var 0) par_nil)))
  (pst_cons (pst_if (pt_not' (pt_val' (pv_call c_is_rule_in (hr.mono (by decide)) (par_cons (pv_var 1) par_nil)))) (pst_one pst_never) pst_nil)
  (pst_one (pst_ret (pv_var 1))))))) sem_sure_rule
theorem sc_big_d : FnScope ["rule"] ["rule"] (defScope (top 22)) := ⟨rfl, rfl, rfl, by decide +kernel, rfl, by decide +kernel, by decide +kernel⟩
theorem ok_big_d {f : Addr} {fd : FuncData} (F : Fun K "big_d" "big_d" (top 22) f fd) : FnOk P w K mg base CX0 1 f fd ["rule"] (spF K S_big_d) :=
  fn_F rfl F sc_big_d (fun ds R h => len_of_big_d h) (fun cdv A outer s H E hr => by
    have nd := sc_big_d.nd
    exact (show PSts _ .d _ rd_big_d_0 from (pst_one (pst_ret (pv_bin op_sub o2_sub (pv_bin op_mulA o2_mul (pv_ixN 0 pv_int) (pv_ixN 0 pv_int)) (pv_bin op_mulA o2_mul pv_int (pv_ixN 0 pv_int))))))) sem_big_d
theorem sc_terms_in : FnScope ["rule", "kind", "many", "found"] ["rule", "kind", "many"] (defScope (top 23)) := ⟨rfl, rfl, rfl, by decide +kernel, rfl, by decide +kernel, by decide +kernel⟩
theorem ok_terms_in {f : Addr} {fd : FuncData} (F : Fun K "terms_in" "terms_in" (top 23) f fd) (z_len : mg "len" = none) : FnOk P w K mg base CX0 1 f fd ["rule", "kind", "many"] (spF K S_terms_in) :=
  fn_F rfl F sc_terms_in (fun ds R h => len_of_terms_in h) (fun cdv A outer s H E hr => by
    have nd := sc_terms_in.nd
    exact (show PSts _ .d _ rd_terms_in_0 from (pst_cons (pst_setO 3 nd (pf_ifE (pt_cmp' op_eq o2_eq (pv_var 1) pv_str (nomark _)) (pf_lst (par_cons pv_int (par_cons pv_int par_nil))) (pf_lst (par_cons pv_int (par_cons (pv_ixN 0 pv_int) par_nil)))))
  (pst_cons (pst_while (pt_cmp' op_lt o2_lt (pv_lenN 3 z_len PySem.boot_len) (pv_var 2) (nomark _)) (pst_one (pst_app 3 (pv_bin op_sub o2_sub (pv_bin op_mulA o2_mul (pv_ixN 0 pv_int) (pv_ixN 3 (pv_un un_neg o1_neg pv_int))) (pv_bin op_mulA o2_mul (pv_ixN 0 pv_int) (pv_ixN 3 (pv_un un_neg o1_neg pv_int)))) (hp := fun h => pe_bm PySem.F.plainAttrs_list PySem.F.slot_list_append PySem.F.type_list_append mt_append (pv 3) h))))
  (pst_one (pst_ret (pv_of (pf_slc (pv_var 3) pot_none (pot_some (pv_var 2)))))))))) sem_terms_in
theorem sc_zero_in : FnScope ["rule", "found", "place", "own"] ["rule"] (defScope (top 24)) := ⟨rfl, rfl, rfl, by decide +kernel, rfl, by decide +kernel, by decide +kernel⟩
theorem ok_zero_in {f : Addr} {fd : FuncData} (F : Fun K "zero_in" "zero_in" (top 24) f fd) (c_terms_in : Cal P w K mg base 1 "terms_in" ["rule", "kind", "many"] (spF K S_terms_in)) (z_enumerate : mg "enumerate" = none) : FnOk P w K mg base CX0 2 f fd ["rule"] (spF K S_zero_in) :=
  fn_F rfl F sc_zero_in (fun ds R h => len_of_zero_in h) (fun cdv A outer s H E hr => by
    have nd := sc_zero_in.nd
    exact (show PSts _ .d _ rd_zero_in_0 from (pst_cons (pst_setLc [("place", 2), ("own", 3)] rfl nd (by kernel_rfl) (pit_enum z_enumerate (par_cons (pv_call c_terms_in (hr.mono (by decide)) (par_cons (pv_var 0) (par_cons pv_str (par_cons pv_int par_nil)))) par_nil)) (fun _ _ _ _ _ => (pgt_tup rfl (pgts_cons (pgt_name 2 nd) (pgts_cons (pgt_name 3 nd) pgts_nil)))) (fun _ _ _ _ _ => (ptst_one (pt_of_pw (pw_and' (pt_cmp' op_gt o2_gt (pv_var 2) pv_int (nomark _)) (pw_and1' (pt_cmp' op_eq o2_eq (pv_var 3) pv_int (nomark _))))))) (fun _ _ _ _ _ => (pv_var 2)))
  (pst_one (pst_ret (pv_ifE (pt_cmp' (op_neD hr.units) o2_neD (pv_var 1) (pv_of (pf_lst par_nil)) (nomark _)) (pv_ixN 1 pv_int) pv_non)))))) sem_zero_in
theorem sc_is_rule : FnScope ["thing"] ["thing"] (defScope (top 25)) := ⟨rfl, rfl, rfl, by decide +kernel, rfl, by decide +kernel, by decide +kernel⟩
theorem ok_is_rule {f : Addr} {fd : FuncData} (F : Fun K "is_rule" "is_rule" (top 25) f fd) (c_is_rule_in : Cal P w K mg base 3 "is_rule_in" ["thing"] (spF K S_is_rule_in)) : FnOk P w K mg base CX0 4 f fd ["thing"] (spF K S_is_rule) :=
  fn_F rfl F sc_is_rule (fun ds R h => len_of_is_rule h) (fun cdv A outer s H E hr => by
    have nd := sc_is_rule.nd
    exact (show PSts _ .d _ rd_is_rule_0 from (pst_one (pst_ret (pv_call c_is_rule_in (hr.mono (by decide)) (par_cons (pv_var 0) par_nil)))))) sem_is_rule
theorem sc_discriminant : FnScope ["rule"] ["rule"] (defScope (top 26)) := ⟨rfl, rfl, rfl, by decide +kernel, rfl, by decide +kernel, by decide +kernel⟩
theorem ok_discriminant {f : Addr} {fd : FuncData} (F : Fun K "discriminant" "discriminant" (top 26) f fd) (c_big_d : Cal P w K mg base 1 "big_d" ["rule"] (spF K S_big_d)) (c_sure_rule : Cal P w K mg base 10 "sure_rule" ["value"] (spF K S_sure_rule)) : FnOk P w K mg base CX0 11 f fd ["rule"] (spF K S_discriminant) :=
  fn_F rfl F sc_discriminant (fun ds R h => len_of_discriminant h) (fun cdv A outer s H E hr => by
    have nd := sc_discriminant.nd
    exact (show PSts _ .d _ rd_discriminant_0 from (pst_one (pst_ret (pv_call c_big_d (hr.mono (by decide)) (par_cons (pv_call c_sure_rule (hr.mono (by decide)) (par_cons (pv_var 0) par_nil)) par_nil)))))) sem_discriminant
theorem sc_term : FnScope ["rule", "number", "own"] ["rule", "number"] (defScope (top 27)) := ⟨rfl, rfl, rfl, by decide +kernel, rfl, by decide +kernel, by decide +kernel⟩
theorem ok_term {f : Addr} {fd : FuncData} (F : Fun K "term" "term" (top 27) f fd) (c_sure_rule : Cal P w K mg base 10 "sure_rule" ["value"] (spF K S_sure_rule)) (c_terms_in : Cal P w K mg base 1 "terms_in" ["rule", "kind", "many"] (spF K S_terms_in)) (c_sure_within : Cal P w K mg base 3 "sure_within" ["thing", "least", "most"] (spF K S_sure_within)) (g_MOST_TERM : ∃ t, mg "MOST_TERM" = some (.int 3000 t)) : FnOk P w K mg base CX0 11 f fd ["rule", "number"] (spF K S_term) :=
  fn_F rfl F sc_term (fun ds R h => len_of_term h) (fun cdv A outer s H E hr => by
    have nd := sc_term.nd
    exact (show PSts _ .d _ rd_term_0 from (pst_cons (pst_set 2 nd (pv_call c_sure_rule (hr.mono (by decide)) (par_cons (pv_var 0) par_nil)))
  (pst_one (pst_ret (pv_ix (pv_call c_terms_in (hr.mono (by decide)) (par_cons (pv_var 2) (par_cons pv_str (par_cons (pv_bin op_add o2_add (pv_call c_sure_within (hr.mono (by decide)) (par_cons (pv_var 1) (par_cons pv_int (par_cons (pv_globI rfl g_MOST_TERM) par_nil)))) pv_int) par_nil)))) (pv_un un_neg o1_neg pv_int))))))) sem_term
theorem sc_companion : FnScope ["rule", "number", "own"] ["rule", "number"] (defScope (top 28)) := ⟨rfl, rfl, rfl, by decide +kernel, rfl, by decide +kernel, by decide +kernel⟩
theorem ok_companion {f : Addr} {fd : FuncData} (F : Fun K "companion" "companion" (top 28) f fd) (c_sure_rule : Cal P w K mg base 10 "sure_rule" ["value"] (spF K S_sure_rule)) (c_terms_in : Cal P w K mg base 1 "terms_in" ["rule", "kind", "many"] (spF K S_terms_in)) (c_sure_within : Cal P w K mg base 3 "sure_within" ["thing", "least", "most"] (spF K S_sure_within)) (g_MOST_TERM : ∃ t, mg "MOST_TERM" = some (.int 3000 t)) : FnOk P w K mg base CX0 11 f fd ["rule", "number"] (spF K S_companion) :=
  fn_F rfl F sc_companion (fun ds R h => len_of_companion h) (fun cdv A outer s H E hr => by
    have nd := sc_companion.nd
    exact (show PSts _ .d _ rd_companion_0 from (pst_cons (pst_set 2 nd (pv_call c_sure_rule (hr.mono (by decide)) (par_cons (pv_var 0) par_nil)))
  (pst_one (pst_ret (pv_ix (pv_call c_terms_in (hr.mono (by decide)) (par_cons (pv_var 2) (par_cons pv_str (par_cons (pv_bin op_add o2_add (pv_call c_sure_within (hr.mono (by decide)) (par_cons (pv_var 1) (par_cons pv_int (par_cons (pv_globI rfl g_MOST_TERM) par_nil)))) pv_int) par_nil)))) (pv_un un_neg o1_neg pv_int))))))) sem_companion
theorem sc_digits_of : FnScope ["number", "found", "left"] ["number"] (defScope (top 32)) := ⟨rfl, rfl, rfl, by decide +kernel, rfl, by decide +kernel, by decide +kernel⟩
theorem ok_digits_of {f : Addr} {fd : FuncData} (F : Fun K "digits_of" "digits_of" (top 32) f fd) : FnOk P w K mg base CX0 1 f fd ["number"] (spF K S_digits_of) :=
  fn_F rfl F sc_digits_of (fun ds R h => len_of_digits_of h) (fun cdv A outer s H E hr => by
    have nd := sc_digits_of.nd
    exact (show PSts _ .d _ rd_digits_of_0 from (pst_cons (pst_parO 1 2 rfl nd (pf_lst par_nil) (par_cons (pv_var 0) par_nil))
  (pst_cons (pst_while (pt_cmp' op_gt o2_gt (pv_var 2) pv_int (nomark _)) (pst_cons (pst_app 1 (pv_bin op_mod o2_mod (pv_var 2) pv_int) (hp := fun h => pe_bm PySem.F.plainAttrs_list PySem.F.slot_list_append PySem.F.type_list_append mt_append (pv 1) h))
  (pst_one (pst_set 2 nd (pv_bin op_fdivW o2_div (pv_var 2) pv_int)))))
  (pst_one (pst_ret (pv_of (pf_rev (pv_var 1))))))))) sem_digits_of
theorem sc_pair_mod : FnScope ["rule", "number", "modulus", "near", "far", "digit", "twice", "beyond"] ["rule", "number", "modulus"] (defScope (top 33)) := ⟨rfl, rfl, rfl, by decide +kernel, rfl, by decide +kernel, by decide +kernel⟩
theorem ok_pair_mod {f : Addr} {fd : FuncData} (F : Fun K "pair_mod" "pair_mod" (top 33) f fd) (c_digits_of : Cal P w K mg base 1 "digits_of" ["number"] (spF K S_digits_of)) : FnOk P w K mg base CX0 2 f fd ["rule", "number", "modulus"] (spF K S_pair_mod) :=
  fn_F rfl F sc_pair_mod (fun ds R h => len_of_pair_mod h) (fun cdv A outer s H E hr => by
    have nd := sc_pair_mod.nd
    exact (show PSts _ .d _ rd_pair_mod_0 from (pst_cons (pst_par 3 4 rfl nd (par_cons pv_int (par_cons (pv_bin op_mod o2_mod pv_int (pv_var 2)) par_nil)))
  (pst_cons (pst_for rfl (pit_list (pv_call c_digits_of (hr.mono (by decide)) (par_cons (pv_var 1) par_nil))) (pgt_name 5 nd) (pst_cons (pst_set 6 nd (pv_bin op_mod o2_mod (pv_bin op_mulA o2_mul (pv_var 3) (pv_bin op_sub o2_sub (pv_bin op_mulA o2_mul pv_int (pv_var 4)) (pv_bin op_mulA o2_mul (pv_ixN 0 pv_int) (pv_var 3)))) (pv_var 2)))
  (pst_cons (pst_set 7 nd (pv_bin op_mod o2_mod (pv_bin op_sub o2_sub (pv_bin op_mulA o2_mul (pv_var 4) (pv_var 4)) (pv_bin op_mulA o2_mul (pv_bin op_mulA o2_mul (pv_ixN 0 pv_int) (pv_var 3)) (pv_var 3))) (pv_var 2)))
  (pst_one (pst_asg (pv_ifE (pt_cmp' op_eq o2_eq (pv_var 5) pv_int (nomark _)) (pv_tup (par_cons (pv_var 6) (par_cons (pv_var 7) par_nil))) (pv_tup (par_cons (pv_var 7) (par_cons (pv_bin op_mod o2_mod (pv_bin op_sub o2_sub (pv_bin op_mulA o2_mul (pv_ixN 0 pv_int) (pv_var 7)) (pv_bin op_mulA o2_mul (pv_ixN 0 pv_int) (pv_var 6))) (pv_var 2)) par_nil)))) (pgt_tup rfl (pgts_cons (pgt_name 3 nd) (pgts_cons (pgt_name 4 nd) pgts_nil))))))))
  (pst_one (pst_ret (pv_tup (par_cons (pv_var 3) (par_cons (pv_var 4) par_nil))))))))) sem_pair_mod
theorem sc_v_mod : FnScope ["rule", "number", "modulus", "near", "far"] ["rule", "number", "modulus"] (defScope (top 34)) := ⟨rfl, rfl, rfl, by decide +kernel, rfl, by decide +kernel, by decide +kernel⟩
theorem ok_v_mod {f : Addr} {fd : FuncData} (F : Fun K "v_mod" "v_mod" (top 34) f fd) (c_pair_mod : Cal P w K mg base 2 "pair_mod" ["rule", "number", "modulus"] (spF K S_pair_mod)) : FnOk P w K mg base CX0 3 f fd ["rule", "number", "modulus"] (spF K S_v_mod) :=
  fn_F rfl F sc_v_mod (fun ds R h => len_of_v_mod h) (fun cdv A outer s H E hr => by
    have nd := sc_v_mod.nd
    exact (show PSts _ .d _ rd_v_mod_0 from (pst_cons (pst_asg (pv_call c_pair_mod (hr.mono (by decide)) (par_cons (pv_var 0) (par_cons (pv_var 1) (par_cons (pv_var 2) par_nil)))) (pgt_tup rfl (pgts_cons (pgt_name 3 nd) (pgts_cons (pgt_name 4 nd) pgts_nil))))
  (pst_one (pst_ret (pv_bin op_mod o2_mod (pv_bin op_sub o2_sub (pv_bin op_mulA o2_mul pv_int (pv_var 4)) (pv_bin op_mulA o2_mul (pv_ixN 0 pv_int) (pv_var 3))) (pv_var 2))))))) sem_v_mod
theorem sc_sure_far : FnScope ["number", "modulus", "own"] ["number", "modulus"] (defScope (top 35)) := ⟨rfl, rfl, rfl, by decide +kernel, rfl, by decide +kernel, by decide +kernel⟩
theorem ok_sure_far {f : Addr} {fd : FuncData} (F : Fun K "sure_far" "sure_far" (top 35) f fd) (c_sure_within : Cal P w K mg base 3 "sure_within" ["thing", "least", "most"] (spF K S_sure_within)) (g_MOST_FAR : ∃ t, mg "MOST_FAR" = some (.int 1000000000000000000 t)) (g_MOST_MODULUS_far : ∃ t, mg "MOST_MODULUS_far" = some (.int 1000000000000000000000000000000 t)) : FnOk P w K mg base CX0 4 f fd ["number", "modulus"] (spF K S_sure_far) :=
  fn_F rfl F sc_sure_far (fun ds R h => len_of_sure_far h) (fun cdv A outer s H E hr => by
    have nd := sc_sure_far.nd
    exact (show PSts _ .d _ rd_sure_far_0 from (pst_cons (pst_set 2 nd (pv_call c_sure_within (hr.mono (by decide)) (par_cons (pv_var 0) (par_cons pv_int (par_cons (pv_globI rfl g_MOST_FAR) par_nil)))))
  (pst_one (pst_ret (pv_tup (par_cons (pv_var 2) (par_cons (pv_call c_sure_within (hr.mono (by decide)) (par_cons (pv_var 1) (par_cons pv_int (par_cons (pv_globI rfl g_MOST_MODULUS_far) par_nil)))) par_nil)))))))) sem_sure_far
theorem sc_term_rest : FnScope ["rule", "number", "modulus", "own", "far", "under"] ["rule", "number", "modulus"] (defScope (top 36)) := ⟨rfl, rfl, rfl, by decide +kernel, rfl, by decide +kernel, by decide +kernel⟩
theorem ok_term_rest {f : Addr} {fd : FuncData} (F : Fun K "term_rest" "term_rest" (top 36) f fd) (c_sure_rule : Cal P w K mg base 10 "sure_rule" ["value"] (spF K S_sure_rule)) (c_sure_far : Cal P w K mg base 4 "sure_far" ["number", "modulus"] (spF K S_sure_far)) (c_pair_mod : Cal P w K mg base 2 "pair_mod" ["rule", "number", "modulus"] (spF K S_pair_mod)) : FnOk P w K mg base CX0 11 f fd ["rule", "number", "modulus"] (spF K S_term_rest) :=
  fn_F rfl F sc_term_rest (fun ds R h => len_of_term_rest h) (fun cdv A outer s H E hr => by
    have nd := sc_term_rest.nd
    exact (show PSts _ .d _ rd_term_rest_0 from (pst_cons (pst_set 3 nd (pv_call c_sure_rule (hr.mono (by decide)) (par_cons (pv_var 0) par_nil)))
  (pst_cons (pst_asg (pv_call c_sure_far (hr.mono (by decide)) (par_cons (pv_var 1) (par_cons (pv_var 2) par_nil))) (pgt_tup rfl (pgts_cons (pgt_name 4 nd) (pgts_cons (pgt_name 5 nd) pgts_nil))))
  (pst_one (pst_ret (pv_ix (pv_call c_pair_mod (hr.mono (by decide)) (par_cons (pv_var 3) (par_cons (pv_var 4) (par_cons (pv_var 5) par_nil)))) pv_int))))))) sem_term_rest
theorem sc_companion_rest : FnScope ["rule", "number", "modulus", "own", "far", "under"] ["rule", "number", "modulus"] (defScope (top 37)) := ⟨rfl, rfl, rfl, by decide +kernel, rfl, by decide +kernel, by decide +kernel⟩
theorem ok_companion_rest {f : Addr} {fd : FuncData} (F : Fun K "companion_rest" "companion_rest" (top 37) f fd) (c_sure_rule : Cal P w K mg base 10 "sure_rule" ["value"] (spF K S_sure_rule)) (c_sure_far : Cal P w K mg base 4 "sure_far" ["number", "modulus"] (spF K S_sure_far)) (c_v_mod : Cal P w K mg base 3 "v_mod" ["rule", "number", "modulus"] (spF K S_v_mod)) : FnOk P w K mg base CX0 11 f fd ["rule", "number", "modulus"] (spF K S_companion_rest) :=
  fn_F rfl F sc_companion_rest (fun ds R h => len_of_companion_rest h) (fun cdv A outer s H E hr => by
    have nd := sc_companion_rest.nd
    exact (show PSts _ .d _ rd_companion_rest_0 from (pst_cons (pst_set 3 nd (pv_call c_sure_rule (hr.mono (by decide)) (par_cons (pv_var 0) par_nil)))
  (pst_cons (pst_asg (pv_call c_sure_far (hr.mono (by decide)) (par_cons (pv_var 1) (par_cons (pv_var 2) par_nil))) (pgt_tup rfl (pgts_cons (pgt_name 4 nd) (pgts_cons (pgt_name 5 nd) pgts_nil))))
  (pst_one (pst_ret (pv_call c_v_mod (hr.mono (by decide)) (par_cons (pv_var 3) (par_cons (pv_var 4) (par_cons (pv_var 5) par_nil)))))))))) sem_companion_rest
theorem sc_two_terms : FnScope ["rule", "kinds", "one", "other", "own", "near", "far"] ["rule", "kinds", "one", "other"] (defScope (top 39)) := ⟨rfl, rfl, rfl, by decide +kernel, rfl, by decide +kernel, by decide +kernel⟩
theorem ok_two_terms {f : Addr} {fd : FuncData} (F : Fun K "two_terms" "two_terms" (top 39) f fd) (c_sure_rule : Cal P w K mg base 10 "sure_rule" ["value"] (spF K S_sure_rule)) (c_sure_within : Cal P w K mg base 3 "sure_within" ["thing", "least", "most"] (spF K S_sure_within)) (c_terms_in : Cal P w K mg base 1 "terms_in" ["rule", "kind", "many"] (spF K S_terms_in)) (g_MOST_TERM : ∃ t, mg "MOST_TERM" = some (.int 3000 t)) : FnOk P w K mg base CX0 11 f fd ["rule", "kinds", "one", "other"] (spF K S_two_terms) :=
  fn_F rfl F sc_two_terms (fun ds R h => len_of_two_terms h) (fun cdv A outer s H E hr => by
    have nd := sc_two_terms.nd
    exact (show PSts _ .d _ rd_two_terms_0 from (pst_cons (pst_set 4 nd (pv_call c_sure_rule (hr.mono (by decide)) (par_cons (pv_var 0) par_nil)))
  (pst_cons (pst_set 5 nd (pv_call c_sure_within (hr.mono (by decide)) (par_cons (pv_var 2) (par_cons pv_int (par_cons (pv_globI rfl g_MOST_TERM) par_nil)))))
  (pst_cons (pst_set 6 nd (pv_call c_sure_within (hr.mono (by decide)) (par_cons (pv_var 3) (par_cons pv_int (par_cons (pv_globI rfl g_MOST_TERM) par_nil)))))
  (pst_one (pst_ret (pv_tup (par_cons (pv_ix (pv_call c_terms_in (hr.mono (by decide)) (par_cons (pv_var 4) (par_cons (pv_ixS (pv_var 1) pv_int) (par_cons (pv_bin op_add o2_add (pv_var 5) pv_int) par_nil)))) (pv_un un_neg o1_neg pv_int)) (par_cons (pv_ix (pv_call c_terms_in (hr.mono (by decide)) (par_cons (pv_var 4) (par_cons (pv_ixS (pv_var 1) pv_int) (par_cons (pv_bin op_add o2_add (pv_var 6) pv_int) par_nil)))) (pv_un un_neg o1_neg pv_int)) par_nil)))))))))) sem_two_terms
theorem sc_common_terms : FnScope ["rule", "one", "other", "near", "far"] ["rule", "one", "other"] (defScope (top 40)) := ⟨rfl, rfl, rfl, by decide +kernel, rfl, by decide +kernel, by decide +kernel⟩
theorem ok_common_terms {f : Addr} {fd : FuncData} (F : Fun K "common_terms" "common_terms" (top 40) f fd) (c_two_terms : Cal P w K mg base 11 "two_terms" ["rule", "kinds", "one", "other"] (spF K S_two_terms)) (c_common : Cal P w K mg base 1 "common" ["one", "other"] (spF K S_common)) : FnOk P w K mg base CX0 12 f fd ["rule", "one", "other"] (spF K S_common_terms) :=
  fn_F rfl F sc_common_terms (fun ds R h => len_of_common_terms h) (fun cdv A outer s H E hr => by
    have nd := sc_common_terms.nd
    exact (show PSts _ .d _ rd_common_terms_0 from (pst_cons (pst_asg (pv_call c_two_terms (hr.mono (by decide)) (par_cons (pv_var 0) (par_cons pv_str (par_cons (pv_var 1) (par_cons (pv_var 2) par_nil))))) (pgt_tup rfl (pgts_cons (pgt_name 3 nd) (pgts_cons (pgt_name 4 nd) pgts_nil))))
  (pst_one (pst_ret (pv_call c_common (hr.mono (by decide)) (par_cons (pv_var 3) (par_cons (pv_var 4) par_nil)))))))) sem_common_terms
theorem sc_quotient : FnScope ["rule", "number", "often", "own", "near", "times", "rows"] ["rule", "number", "often"] (defScope (top 41)) := ⟨rfl, rfl, rfl, by decide +kernel, rfl, by decide +kernel, by decide +kernel⟩
theorem ok_quotient {f : Addr} {fd : FuncData} (F : Fun K "quotient" "quotient" (top 41) f fd) (c_sure_rule : Cal P w K mg base 10 "sure_rule" ["value"] (spF K S_sure_rule)) (c_sure_within : Cal P w K mg base 3 "sure_within" ["thing", "least", "most"] (spF K S_sure_within)) (c_terms_in : Cal P w K mg base 1 "terms_in" ["rule", "kind", "many"] (spF K S_terms_in)) (z_max : mg "max" = none) (g_MOST_TERM : ∃ t, mg "MOST_TERM" = some (.int 3000 t)) : FnOk P w K mg base CX0 11 f fd ["rule", "number", "often"] (spF K S_quotient) :=
  fn_F rfl F sc_quotient (fun ds R h => len_of_quotient h) (fun cdv A outer s H E hr => by
    have nd := sc_quotient.nd
    exact (show PSts _ .d _ rd_quotient_0 from (pst_cons (pst_set 3 nd (pv_call c_sure_rule (hr.mono (by decide)) (par_cons (pv_var 0) par_nil)))
  (pst_cons (pst_set 4 nd (pv_call c_sure_within (hr.mono (by decide)) (par_cons (pv_var 1) (par_cons pv_int (par_cons (pv_globI rfl g_MOST_TERM) par_nil)))))
  (pst_cons (pst_set 5 nd (pv_call c_sure_within (hr.mono (by decide)) (par_cons (pv_var 2) (par_cons pv_int (par_cons (pv_bin op_fdivW o2_div (pv_globI rfl g_MOST_TERM) (pv_var 4)) par_nil)))))
  (pst_cons (pst_set 6 nd (pv_call c_terms_in (hr.mono (by decide)) (par_cons (pv_var 3) (par_cons pv_str (par_cons (pv_bin op_add o2_add (pv_bin op_mulA o2_mul (pv_var 4) (pv_blt (call_max2 rfl) b_max2 z_max (by decide +kernel) (par_cons (pv_var 5) (par_cons pv_int par_nil)))) pv_int) par_nil)))))
  (pst_cons (pst_if (pt_cmp' op_eq o2_eq (pv_ixN 6 (pv_var 4)) pv_int (nomark _)) (pst_one pst_never) pst_nil)
  (pst_one (pst_ret (pv_bin op_divZ o2_divZ (pv_ixN 6 (pv_bin op_mulA o2_mul (pv_var 4) (pv_var 5))) (pv_ixN 6 (pv_var 4)))))))))))) sem_quotient
theorem sc_bound_in : FnScope ["rule", "prime", "sign"] ["rule", "prime"] (defScope (top 44)) := ⟨rfl, rfl, rfl, by decide +kernel, rfl, by decide +kernel, by decide +kernel⟩
theorem ok_bound_in {f : Addr} {fd : FuncData} (F : Fun K "bound_in" "bound_in" (top 44) f fd) (c_jacobi_in : Cal P w K mg base 1 "jacobi_in" ["one", "odd"] (spF K S_jacobi_in)) (c_big_d : Cal P w K mg base 1 "big_d" ["rule"] (spF K S_big_d)) : FnOk P w K mg base CX0 2 f fd ["rule", "prime"] (spF K S_bound_in) :=
  fn_F rfl F sc_bound_in (fun ds R h => len_of_bound_in h) (fun cdv A outer s H E hr => by
    have nd := sc_bound_in.nd
    exact (show PSts _ .d _ rd_bound_in_0 from (pst_cons (pst_if (pt_cmp' op_eq o2_eq (pv_var 1) pv_int (nomark _)) (pst_one (pst_ret (pv_ifE (pt_cmp' op_eq o2_eq (pv_bin op_mod o2_mod (pv_ixN 0 pv_int) pv_int) pv_int (nomark _)) pv_int pv_int))) pst_nil)
  (pst_cons (pst_set 2 nd (pv_call c_jacobi_in (hr.mono (by decide)) (par_cons (pv_call c_big_d (hr.mono (by decide)) (par_cons (pv_var 0) par_nil)) (par_cons (pv_var 1) par_nil))))
  (pst_one (pst_ret (pv_ifE (pt_cmp' op_eq o2_eq (pv_var 2) pv_int (nomark _)) (pv_var 1) (pv_bin op_sub o2_sub (pv_var 1) (pv_var 2))))))))) sem_bound_in
theorem sc_least_part : FnScope ["rule", "modulus", "bound", "found", "prime", "often"] ["rule", "modulus", "bound"] (defScope (top 45)) := ⟨rfl, rfl, rfl, by decide +kernel, rfl, by decide +kernel, by decide +kernel⟩
theorem ok_least_part {f : Addr} {fd : FuncData} (F : Fun K "least_part" "least_part" (top 45) f fd) (c_primes_of : Cal P w K mg base 1 "primes_of" ["number"] (spF K S_primes_of)) (c_pair_mod : Cal P w K mg base 2 "pair_mod" ["rule", "number", "modulus"] (spF K S_pair_mod)) : FnOk P w K mg base CX0 3 f fd ["rule", "modulus", "bound"] (spF K S_least_part) :=
  fn_F rfl F sc_least_part (fun ds R h => len_of_least_part h) (fun cdv A outer s H E hr => by
    have nd := sc_least_part.nd
    exact (show PSts _ .d _ rd_least_part_0 from (pst_cons (pst_set 3 nd (pv_var 2))
  (pst_cons (pst_for rfl (pit_tup (pv_call c_primes_of (hr.mono (by decide)) (par_cons (pv_var 2) par_nil))) (pgt_tup rfl (pgts_cons (pgt_name 4 nd) (pgts_cons (pgt_name 5 nd) pgts_nil))) (pst_one (pst_while (pt_of_pw (pw_and' (pt_cmp' op_eq o2_eq (pv_bin op_mod o2_mod (pv_var 3) (pv_var 4)) pv_int (nomark _)) (pw_and1' (pt_cmp' op_eq o2_eq (pv_ix (pv_call c_pair_mod (hr.mono (by decide)) (par_cons (pv_var 0) (par_cons (pv_bin op_fdivW o2_div (pv_var 3) (pv_var 4)) (par_cons (pv_var 1) par_nil)))) pv_int) pv_int (nomark _))))) (pst_one (pst_set 3 nd (pv_bin op_fdivW o2_div (pv_var 3) (pv_var 4)))))))
  (pst_one (pst_ret (pv_var 3))))))) sem_least_part
theorem sc_prime_place_in : FnScope ["rule", "prime"] ["rule", "prime"] (defScope (top 46)) := ⟨rfl, rfl, rfl, by decide +kernel, rfl, by decide +kernel, by decide +kernel⟩
theorem ok_prime_place_in {f : Addr} {fd : FuncData} (F : Fun K "prime_place_in" "prime_place_in" (top 46) f fd) (c_least_part : Cal P w K mg base 3 "least_part" ["rule", "modulus", "bound"] (spF K S_least_part)) (c_bound_in : Cal P w K mg base 2 "bound_in" ["rule", "prime"] (spF K S_bound_in)) : FnOk P w K mg base CX0 4 f fd ["rule", "prime"] (spF K S_prime_place_in) :=
  fn_F rfl F sc_prime_place_in (fun ds R h => len_of_prime_place_in h) (fun cdv A outer s H E hr => by
    have nd := sc_prime_place_in.nd
    exact (show PSts _ .d _ rd_prime_place_in_0 from (pst_one (pst_ret (pv_call c_least_part (hr.mono (by decide)) (par_cons (pv_var 0) (par_cons (pv_var 1) (par_cons (pv_call c_bound_in (hr.mono (by decide)) (par_cons (pv_var 0) (par_cons (pv_var 1) par_nil))) par_nil)))))))) sem_prime_place_in
theorem sc_ground_in : FnScope ["rule", "prime"] ["rule", "prime"] (defScope (top 47)) := ⟨rfl, rfl, rfl, by decide +kernel, rfl, by decide +kernel, by decide +kernel⟩
theorem ok_ground_in {f : Addr} {fd : FuncData} (F : Fun K "ground_in" "ground_in" (top 47) f fd) (c_prime_place_in : Cal P w K mg base 4 "prime_place_in" ["rule", "prime"] (spF K S_prime_place_in)) (c_least_part : Cal P w K mg base 3 "least_part" ["rule", "modulus", "bound"] (spF K S_least_part)) : FnOk P w K mg base CX0 5 f fd ["rule", "prime"] (spF K S_ground_in) :=
  fn_F rfl F sc_ground_in (fun ds R h => len_of_ground_in h) (fun cdv A outer s H E hr => by
    have nd := sc_ground_in.nd
    exact (show PSts _ .d _ rd_ground_in_0 from (pst_one (pst_ret (pv_ifE (pt_cmp' op_gt o2_gt (pv_var 1) pv_int (nomark _)) (pv_call c_prime_place_in (hr.mono (by decide)) (par_cons (pv_var 0) (par_cons (pv_var 1) par_nil))) (pv_call c_least_part (hr.mono (by decide)) (par_cons (pv_var 0) (par_cons pv_int (par_cons (pv_bin op_mulA o2_mul pv_int (pv_call c_prime_place_in (hr.mono (by decide)) (par_cons (pv_var 0) (par_cons pv_int par_nil)))) par_nil))))))))) sem_ground_in
theorem sc_excess_in : FnScope ["rule", "prime", "ground", "zero", "found", "power"] ["rule", "prime"] (defScope (top 48)) := ⟨rfl, rfl, rfl, by decide +kernel, rfl, by decide +kernel, by decide +kernel⟩
theorem ok_excess_in {f : Addr} {fd : FuncData} (F : Fun K "excess_in" "excess_in" (top 48) f fd) (c_zero_in : Cal P w K mg base 2 "zero_in" ["rule"] (spF K S_zero_in)) (c_ground_in : Cal P w K mg base 5 "ground_in" ["rule", "prime"] (spF K S_ground_in)) (c_pair_mod : Cal P w K mg base 2 "pair_mod" ["rule", "number", "modulus"] (spF K S_pair_mod)) : FnOk P w K mg base CX0 6 f fd ["rule", "prime"] (spF K S_excess_in) :=
  fn_F rfl F sc_excess_in (fun ds R h => len_of_excess_in h) (fun cdv A outer s H E hr => by
    have nd := sc_excess_in.nd
    exact (show PSts _ .d _ rd_excess_in_0 from (pst_cons (pst_par 2 3 rfl nd (par_cons (pv_call c_ground_in (hr.mono (by decide)) (par_cons (pv_var 0) (par_cons (pv_var 1) par_nil))) (par_cons (pv_call c_zero_in (hr.mono (by decide)) (par_cons (pv_var 0) par_nil)) par_nil)))
  (pst_cons (pst_if (pt_of_pw (pw_and' (pt_cmp' op_notN o2_notN (pv_var 3) pv_non (nomark _)) (pw_and1' (pt_cmp' op_eq o2_eq (pv_bin op_mod o2_mod (pv_var 2) (pv_var 3)) pv_int (nomark _))))) (pst_one (pst_ret pv_non)) pst_nil)
  (pst_cons (pst_par 4 5 rfl nd (par_cons pv_int (par_cons (pv_var 1) par_nil)))
  (pst_cons (pst_while (pt_cmp' op_eq o2_eq (pv_ix (pv_call c_pair_mod (hr.mono (by decide)) (par_cons (pv_var 0) (par_cons (pv_var 2) (par_cons (pv_var 5) par_nil)))) pv_int) pv_int (nomark _)) (pst_one (pst_par 4 5 rfl nd (par_cons (pv_bin op_add o2_add (pv_var 4) pv_int) (par_cons (pv_bin op_mulA o2_mul (pv_var 5) (pv_var 1)) par_nil)))))
  (pst_one (pst_ret (pv_var 4))))))))) sem_excess_in
theorem sc_power_place_in : FnScope ["rule", "prime", "often", "found", "excess", "lap"] ["rule", "prime", "often"] (defScope (top 49)) := ⟨rfl, rfl, rfl, by decide +kernel, rfl, by decide +kernel, by decide +kernel⟩
theorem ok_power_place_in {f : Addr} {fd : FuncData} (F : Fun K "power_place_in" "power_place_in" (top 49) f fd) (c_prime_place_in : Cal P w K mg base 4 "prime_place_in" ["rule", "prime"] (spF K S_prime_place_in)) (c_excess_in : Cal P w K mg base 6 "excess_in" ["rule", "prime"] (spF K S_excess_in)) (c_ground_in : Cal P w K mg base 5 "ground_in" ["rule", "prime"] (spF K S_ground_in)) (z_range : mg "range" = none) : FnOk P w K mg base CX0 7 f fd ["rule", "prime", "often"] (spF K S_power_place_in) :=
  fn_F rfl F sc_power_place_in (fun ds R h => len_of_power_place_in h) (fun cdv A outer s H E hr => by
    have nd := sc_power_place_in.nd
    exact (show PSts _ .d _ rd_power_place_in_0 from (pst_cons (pst_if (pt_cmp' op_eq o2_eq (pv_var 2) pv_int (nomark _)) (pst_one (pst_ret (pv_call c_prime_place_in (hr.mono (by decide)) (par_cons (pv_var 0) (par_cons (pv_var 1) par_nil))))) pst_nil)
  (pst_cons (pst_par 3 4 rfl nd (par_cons (pv_call c_ground_in (hr.mono (by decide)) (par_cons (pv_var 0) (par_cons (pv_var 1) par_nil))) (par_cons (pv_call c_excess_in (hr.mono (by decide)) (par_cons (pv_var 0) (par_cons (pv_var 1) par_nil))) par_nil)))
  (pst_cons (pst_if (pt_cmp' op_notN o2_notN (pv_var 4) pv_non (nomark _)) (pst_one (pst_for rfl (pit_r1 z_range (par_cons (pv_bin op_sub o2_sub (pv_var 2) (pv_var 4)) par_nil)) (pgt_name 5 nd) (pst_one (pst_set 3 nd (pv_bin op_mulA o2_mul (pv_var 3) (pv_var 1)))))) pst_nil)
  (pst_one (pst_ret (pv_var 3)))))))) sem_power_place_in
theorem sc_first_place_in : FnScope ["rule", "modulus", "found", "prime", "often"] ["rule", "modulus"] (defScope (top 50)) := ⟨rfl, rfl, rfl, by decide +kernel, rfl, by decide +kernel, by decide +kernel⟩
theorem ok_first_place_in {f : Addr} {fd : FuncData} (F : Fun K "first_place_in" "first_place_in" (top 50) f fd) (c_primes_of : Cal P w K mg base 1 "primes_of" ["number"] (spF K S_primes_of)) (c_lcm : Cal P w K mg base 2 "lcm" ["one", "other"] (spF K S_lcm)) (c_power_place_in : Cal P w K mg base 7 "power_place_in" ["rule", "prime", "often"] (spF K S_power_place_in)) : FnOk P w K mg base CX0 8 f fd ["rule", "modulus"] (spF K S_first_place_in) :=
  fn_F rfl F sc_first_place_in (fun ds R h => len_of_first_place_in h) (fun cdv A outer s H E hr => by
    have nd := sc_first_place_in.nd
    exact (show PSts _ .d _ rd_first_place_in_0 from (pst_cons (pst_set 2 nd pv_int)
  (pst_cons (pst_for rfl (pit_tup (pv_call c_primes_of (hr.mono (by decide)) (par_cons (pv_var 1) par_nil))) (pgt_tup rfl (pgts_cons (pgt_name 3 nd) (pgts_cons (pgt_name 4 nd) pgts_nil))) (pst_one (pst_set 2 nd (pv_call c_lcm (hr.mono (by decide)) (par_cons (pv_var 2) (par_cons (pv_call c_power_place_in (hr.mono (by decide)) (par_cons (pv_var 0) (par_cons (pv_var 3) (par_cons (pv_var 4) par_nil)))) par_nil))))))
  (pst_one (pst_ret (pv_var 2))))))) sem_first_place_in
theorem sc_sure_prime_to : FnScope ["rule", "modulus", "most", "own", "under"] ["rule", "modulus", "most"] (defScope (top 51)) := ⟨rfl, rfl, rfl, by decide +kernel, rfl, by decide +kernel, by decide +kernel⟩
theorem ok_sure_prime_to {f : Addr} {fd : FuncData} (F : Fun K "sure_prime_to" "sure_prime_to" (top 51) f fd) (c_sure_rule : Cal P w K mg base 10 "sure_rule" ["value"] (spF K S_sure_rule)) (c_sure_within : Cal P w K mg base 3 "sure_within" ["thing", "least", "most"] (spF K S_sure_within)) (c_common : Cal P w K mg base 1 "common" ["one", "other"] (spF K S_common)) : FnOk P w K mg base CX0 11 f fd ["rule", "modulus", "most"] (spF K S_sure_prime_to) :=
  fn_F rfl F sc_sure_prime_to (fun ds R h => len_of_sure_prime_to h) (fun cdv A outer s H E hr => by
    have nd := sc_sure_prime_to.nd
    exact (show PSts _ .d _ rd_sure_prime_to_0 from (pst_cons (pst_set 3 nd (pv_call c_sure_rule (hr.mono (by decide)) (par_cons (pv_var 0) par_nil)))
  (pst_cons (pst_set 4 nd (pv_call c_sure_within (hr.mono (by decide)) (par_cons (pv_var 1) (par_cons pv_int (par_cons (pv_var 2) par_nil)))))
  (pst_cons (pst_if (pt_cmp' op_ne o2_ne (pv_call c_common (hr.mono (by decide)) (par_cons (pv_var 4) (par_cons (pv_ixN 3 pv_int) par_nil))) pv_int (nomark _)) (pst_one pst_never) pst_nil)
  (pst_one (pst_ret (pv_tup (par_cons (pv_var 3) (par_cons (pv_var 4) par_nil)))))))))) sem_sure_prime_to
theorem sc_first_place : FnScope ["rule", "modulus", "own", "under"] ["rule", "modulus"] (defScope (top 52)) := ⟨rfl, rfl, rfl, by decide +kernel, rfl, by decide +kernel, by decide +kernel⟩
theorem ok_first_place {f : Addr} {fd : FuncData} (F : Fun K "first_place" "first_place" (top 52) f fd) (c_sure_prime_to : Cal P w K mg base 11 "sure_prime_to" ["rule", "modulus", "most"] (spF K S_sure_prime_to)) (c_first_place_in : Cal P w K mg base 8 "first_place_in" ["rule", "modulus"] (spF K S_first_place_in)) (g_MOST_FOUND : ∃ t, mg "MOST_FOUND" = some (.int 1000000000 t)) : FnOk P w K mg base CX0 12 f fd ["rule", "modulus"] (spF K S_first_place) :=
  fn_F rfl F sc_first_place (fun ds R h => len_of_first_place h) (fun cdv A outer s H E hr => by
    have nd := sc_first_place.nd
    exact (show PSts _ .d _ rd_first_place_0 from (pst_cons (pst_asg (pv_call c_sure_prime_to (hr.mono (by decide)) (par_cons (pv_var 0) (par_cons (pv_var 1) (par_cons (pv_globI rfl g_MOST_FOUND) par_nil)))) (pgt_tup rfl (pgts_cons (pgt_name 2 nd) (pgts_cons (pgt_name 3 nd) pgts_nil))))
  (pst_one (pst_ret (pv_call c_first_place_in (hr.mono (by decide)) (par_cons (pv_var 2) (par_cons (pv_var 3) par_nil)))))))) sem_first_place
theorem sc_sure_coprime : FnScope ["rule", "modulus"] ["rule", "modulus"] (defScope (top 55)) := ⟨rfl, rfl, rfl, by decide +kernel, rfl, by decide +kernel, by decide +kernel⟩
theorem ok_sure_coprime {f : Addr} {fd : FuncData} (F : Fun K "sure_coprime" "sure_coprime" (top 55) f fd) (c_common : Cal P w K mg base 1 "common" ["one", "other"] (spF K S_common)) : FnOk P w K mg base CX0 2 f fd ["rule", "modulus"] (spF K S_sure_coprime) :=
  fn_F rfl F sc_sure_coprime (fun ds R h => len_of_sure_coprime h) (fun cdv A outer s H E hr => by
    have nd := sc_sure_coprime.nd
    exact (show PSts _ .d _ rd_sure_coprime_0 from (pst_cons (pst_if (pt_cmp' op_ne o2_ne (pv_call c_common (hr.mono (by decide)) (par_cons (pv_ixN 0 pv_int) (par_cons (pv_var 1) par_nil))) pv_int (nomark _)) (pst_one pst_never) pst_nil)
  (pst_one (pst_ret (pv_var 1)))))) sem_sure_coprime
theorem sc_multiplier_in : FnScope ["rule", "modulus"] ["rule", "modulus"] (defScope (top 56)) := ⟨rfl, rfl, rfl, by decide +kernel, rfl, by decide +kernel, by decide +kernel⟩
theorem ok_multiplier_in {f : Addr} {fd : FuncData} (F : Fun K "multiplier_in" "multiplier_in" (top 56) f fd) (c_pair_mod : Cal P w K mg base 2 "pair_mod" ["rule", "number", "modulus"] (spF K S_pair_mod)) (c_first_place_in : Cal P w K mg base 8 "first_place_in" ["rule", "modulus"] (spF K S_first_place_in)) : FnOk P w K mg base CX0 9 f fd ["rule", "modulus"] (spF K S_multiplier_in) :=
  fn_F rfl F sc_multiplier_in (fun ds R h => len_of_multiplier_in h) (fun cdv A outer s H E hr => by
    have nd := sc_multiplier_in.nd
    exact (show PSts _ .d _ rd_multiplier_in_0 from (pst_one (pst_ret (pv_ix (pv_call c_pair_mod (hr.mono (by decide)) (par_cons (pv_var 0) (par_cons (pv_call c_first_place_in (hr.mono (by decide)) (par_cons (pv_var 0) (par_cons (pv_var 1) par_nil))) (par_cons (pv_var 1) par_nil)))) pv_int))))) sem_multiplier_in
theorem sc_round_in : FnScope ["rule", "modulus"] ["rule", "modulus"] (defScope (top 57)) := ⟨rfl, rfl, rfl, by decide +kernel, rfl, by decide +kernel, by decide +kernel⟩
theorem ok_round_in {f : Addr} {fd : FuncData} (F : Fun K "round_in" "round_in" (top 57) f fd) (c_first_place_in : Cal P w K mg base 8 "first_place_in" ["rule", "modulus"] (spF K S_first_place_in)) (c_order_in : Cal P w K mg base 3 "order_in" ["one", "modulus"] (spF K S_order_in)) (c_multiplier_in : Cal P w K mg base 9 "multiplier_in" ["rule", "modulus"] (spF K S_multiplier_in)) : FnOk P w K mg base CX0 10 f fd ["rule", "modulus"] (spF K S_round_in) :=
  fn_F rfl F sc_round_in (fun ds R h => len_of_round_in h) (fun cdv A outer s H E hr => by
    have nd := sc_round_in.nd
    exact (show PSts _ .d _ rd_round_in_0 from (pst_one (pst_ret (pv_bin op_mulA o2_mul (pv_call c_first_place_in (hr.mono (by decide)) (par_cons (pv_var 0) (par_cons (pv_var 1) par_nil))) (pv_call c_order_in (hr.mono (by decide)) (par_cons (pv_call c_multiplier_in (hr.mono (by decide)) (par_cons (pv_var 0) (par_cons (pv_var 1) par_nil))) (par_cons (pv_var 1) par_nil)))))))) sem_round_in
theorem sc_round_of : FnScope ["rule", "modulus", "own"] ["rule", "modulus"] (defScope (top 58)) := ⟨rfl, rfl, rfl, by decide +kernel, rfl, by decide +kernel, by decide +kernel⟩
theorem ok_round_of {f : Addr} {fd : FuncData} (F : Fun K "round_of" "round_of" (top 58) f fd) (c_sure_rule : Cal P w K mg base 10 "sure_rule" ["value"] (spF K S_sure_rule)) (c_round_in : Cal P w K mg base 10 "round_in" ["rule", "modulus"] (spF K S_round_in)) (c_sure_coprime : Cal P w K mg base 2 "sure_coprime" ["rule", "modulus"] (spF K S_sure_coprime)) (c_sure_within : Cal P w K mg base 3 "sure_within" ["thing", "least", "most"] (spF K S_sure_within)) (g_MOST_MODULUS_rounds : ∃ t, mg "MOST_MODULUS_rounds" = some (.int 1000000000 t)) : FnOk P w K mg base CX0 11 f fd ["rule", "modulus"] (spF K S_round_of) :=
  fn_F rfl F sc_round_of (fun ds R h => len_of_round_of h) (fun cdv A outer s H E hr => by
    have nd := sc_round_of.nd
    exact (show PSts _ .d _ rd_round_of_0 from (pst_cons (pst_set 2 nd (pv_call c_sure_rule (hr.mono (by decide)) (par_cons (pv_var 0) par_nil)))
  (pst_one (pst_ret (pv_call c_round_in (hr.mono (by decide)) (par_cons (pv_var 2) (par_cons (pv_call c_sure_coprime (hr.mono (by decide)) (par_cons (pv_var 2) (par_cons (pv_call c_sure_within (hr.mono (by decide)) (par_cons (pv_var 1) (par_cons pv_int (par_cons (pv_globI rfl g_MOST_MODULUS_rounds) par_nil)))) par_nil))) par_nil)))))))) sem_round_of
theorem sc__law_box : FnScope ["script", "k", "bit_so"] ["script", "k"] (defScope (top 60)) := ⟨rfl, rfl, rfl, by decide +kernel, rfl, by decide +kernel, by decide +kernel⟩
theorem ok__law_box {f : Addr} {fd : FuncData} (F : Fun K "_law_box" "_law_box" (top 60) f fd) (z_len : mg "len" = none) (z_int : mg "int" = none) (z_abs : mg "abs" = none) : FnOk P w K mg base CX0 1 f fd ["script", "k"] (spN K S__law_box) :=
  fn_N F sc__law_box (fun ds R h => len_of__law_box h) (fun cdv A outer s H E hr => by
    have nd := sc__law_box.nd
    exact (show PSts _ .n _ rd__law_box_0 from (pst_cons (pst_set 2 nd (pv_ifE (pt_cmp' op_lt o2_lt (pv_var 1) (pv_lenN 0 z_len PySem.boot_len) (nomark _)) (pv_ixN 0 (pv_var 1)) pv_int))
  (pst_one (pst_retN (pf_lst (par_cons (pv_bin op_mulA o2_mul (pv_blt call_abs b_abs z_abs (by decide +kernel) (par_cons (pv_var 2) par_nil)) (pv_blty call_int1 b_int1 z_int (by decide +kernel) (par_cons (pv_cmp op_ge o2_ge (pv_blt call_abs b_abs z_abs (by decide +kernel) (par_cons (pv_var 2) par_nil)) (pv_bin op_pow o2_pow pv_int pv_int) (nomark _)) par_nil))) (par_cons (pv_bin op_add o2_add (pv_bin op_add o2_add (pv_bin op_mod o2_mod (pv_blty call_int1 b_int1 z_int (by decide +kernel) (par_cons (pv_var 2) par_nil)) pv_int) (pv_bin op_mulA o2_mul pv_int (pv_var 1))) pv_int) (par_cons pv_int par_nil))))))))) sem__law_box
theorem sc__law_take : FnScope ["tin", "below_so", "drawn_so", "once_so", "wide_so", "twice_so"] ["tin", "below_so"] (defScope (top 61)) := ⟨rfl, rfl, rfl, by decide +kernel, rfl, by decide +kernel, by decide +kernel⟩
theorem ok__law_take {f : Addr} {fd : FuncData} (F : Fun K "_law_take" "_law_take" (top 61) f fd) (z_int : mg "int" = none) : FnOk P w K mg base CX0 1 f fd ["tin", "below_so"] (spM K S__law_take) :=
  fn_M rfl F sc__law_take (fun z ds R h => len_of__law_take h) (fun cdv A outer s H E hr => by
    have nd := sc__law_take.nd
    exact (show PSts _ .m _ rd__law_take_0 from (pst_cons (pst_if (pt_cmp' op_gt o2_gt (pv_ixN 0 pv_int) pv_int (nomark _)) (pst_cons (pst_set 2 nd (pv_bin op_mod o2_mod (pv_blty call_int1 b_int1 z_int (by decide +kernel) (par_cons (pv_ixN 0 pv_int) par_nil)) (pv_var 1)))
  (pst_cons (pst_setIx 0 (pv_bin op_fdivW o2_div (pv_ixN 0 pv_int) (pv_var 1)) pv_int)
  (pst_one (pst_ret (pv_var 2))))) pst_nil)
  (pst_cons (pst_setIx 0 (pv_bin op_add o2_add (pv_ixN 0 pv_int) pv_int) pv_int)
  (pst_cons (pst_set 3 nd (pv_bin op_mod o2_mod (pv_blty call_int1 b_int1 z_int (by decide +kernel) (par_cons (pv_bin op_mulA o2_mul (pv_bin op_add o2_add (pv_ixN 0 pv_int) (pv_bin op_mulA o2_mul pv_int (pv_ixN 0 pv_int))) (pv_bin op_add o2_add pv_int (pv_ixN 0 pv_int))) par_nil)) pv_int))
  (pst_cons (pst_set 4 nd (pv_bin op_add o2_add (pv_bin op_mod o2_mod (pv_blty call_int1 b_int1 z_int (by decide +kernel) (par_cons (pv_var 3) par_nil)) pv_int) pv_int))
  (pst_cons (pst_set 5 nd (pv_bin op_mod o2_mod (pv_blty call_int1 b_int1 z_int (by decide +kernel) (par_cons (pv_bin op_mulA o2_mul (pv_bin op_add o2_add (pv_bin op_add o2_add (pv_var 3) (pv_ixN 0 pv_int)) (pv_bin op_fdivW o2_div (pv_ixN 0 pv_int) pv_int)) (pv_var 4)) par_nil)) pv_int))
  (pst_one (pst_ret (pv_bin op_mod o2_mod (pv_blty call_int1 b_int1 z_int (by decide +kernel) (par_cons (pv_bin op_fdivW o2_div (pv_bin op_mod o2_mod (pv_blty call_int1 b_int1 z_int (by decide +kernel) (par_cons (pv_bin op_add o2_add (pv_bin op_mulA o2_mul (pv_var 5) pv_int) (pv_var 3)) par_nil)) pv_int) pv_int) par_nil)) (pv_var 1))))))))))) sem__law_take
theorem sc__law_cells : FnScope ["script", "most_so", "cells_so", "k", "bit_so", "at_so"] ["script", "most_so"] (defScope (top 62)) := ⟨rfl, rfl, rfl, by decide +kernel, rfl, by decide +kernel, by decide +kernel⟩
theorem ok__law_cells {f : Addr} {fd : FuncData} (F : Fun K "_law_cells" "_law_cells" (top 62) f fd) (z_list : mg "list" = none) (z_enumerate : mg "enumerate" = none) (z_int : mg "int" = none) : FnOk P w K mg base CX0 1 f fd ["script", "most_so"] (spF K S__law_cells) :=
  fn_F rfl F sc__law_cells (fun ds R h => len_of__law_cells h) (fun cdv A outer s H E hr => by
    have nd := sc__law_cells.nd
    exact (show PSts _ .d _ rd__law_cells_0 from (pst_cons (pst_setO 2 nd (pf_orL (pf_list z_list (by decide +kernel) (par_cons (pv_of (pf_slc (pv_var 0) pot_none (pot_some (pv_var 1)))) par_nil)) (pf_lst (par_cons pv_int par_nil))))
  (pst_cons (pst_for rfl (pit_enum z_enumerate (par_cons (pv_of (pf_slc (pv_var 0) (pot_some (pv_var 1)) (pot_some pv_int))) par_nil)) (pgt_tup rfl (pgts_cons (pgt_name 3 nd) (pgts_cons (pgt_name 4 nd) pgts_nil))) (pst_cons (pst_set 5 nd (pv_bin op_mod o2_mod (pv_blty call_int1 b_int1 z_int (by decide +kernel) (par_cons (pv_var 3) par_nil)) (pv_var 1)))
  (pst_one (pst_setIx 2 (pv_bin op_add o2_add (pv_ixN 2 (pv_var 5)) (pv_bin op_mulA o2_mul (pv_var 4) (pv_bin op_add o2_add (pv_var 3) pv_int))) (pv_var 5)))))
  (pst_one (pst_ret (pv_var 2))))))) sem__law_cells
theorem sc__law_of : FnScope ["tin", "goods_so"] ["tin", "goods_so"] (defScope (top 63)) := ⟨rfl, rfl, rfl, by decide +kernel, rfl, by decide +kernel, by decide +kernel⟩
theorem ok__law_of {f : Addr} {fd : FuncData} (F : Fun K "_law_of" "_law_of" (top 63) f fd) (c__law_take : Cal P w K mg base 1 "_law_take" ["tin", "below_so"] (spM K S__law_take)) (z_len : mg "len" = none) : FnOk P w K mg base CX0 2 f fd ["tin", "goods_so"] (spM K S__law_of) :=
  fn_M rfl F sc__law_of (fun z ds R h => len_of__law_of h) (fun cdv A outer s H E hr => by
    have nd := sc__law_of.nd
    exact (show PSts _ .m _ rd__law_of_0 from (pst_one (pst_ret (pv_ixN 1 (pv_callM 0 c__law_take (hr.mono (by decide)) (par_cons (pv_lenN 1 z_len PySem.boot_len) par_nil))))))) sem__law_of
theorem sc__law_same : FnScope ["got", "due", "mine", "its"] ["got", "due"] (defScope (top 64)) := ⟨rfl, rfl, rfl, by decide +kernel, rfl, by decide +kernel, by decide +kernel⟩
theorem okr__law_same {f : Addr} {fd : FuncData} (F : Fun K "_law_same" "_law_same" (top 64) f fd) (z_isinstance : mg "isinstance" = none) (z_list : mg "list" = none) (z_tuple : mg "tuple" = none) (z_len : mg "len" = none) (z_all : mg "all" = none) (z_zip : mg "zip" = none) (z_bool : mg "bool" = none) (z_str : mg "str" = none) (z_int : mg "int" = none) (bn : Binds K fd ["got", "due"] []) (kb : KwB fd ["got", "due"]) (mg_ : mg "_law_same" = some (.ref f)) : ∀ n : Nat, FnOk P w K mg base CX0 (0 + n + 1) f fd ["got", "due"] (spF K (S__law_sameN n))
  | 0 => by
    have c__law_same : Cal P w K mg base 0 "_law_same" ["got", "due"] (spF K fun _ _ => False) := ⟨f, fd, none_left, bn, kb, F.kp, mg_⟩
    exact fn_F rfl F sc__law_same (fun ds R h => len_of__law_same h) (fun cdv A outer s H E hr => by
    have nd := sc__law_same.nd
    exact (show PSts _ .d _ (rd__law_same_0 (fun _ _ => False)) from (pst_cons (pst_if (pt_val' (pv_isi2 z_isinstance (by decide +kernel) z_list (by decide +kernel) z_tuple (by decide +kernel) kn_list kn_tuple (pv_var 1))) (pst_cons (pst_if (pt_of_pw (pw_or' (pt_cmp' op_ne o2_ne (pv_isi z_isinstance (by decide +kernel) z_list (by decide +kernel) kn_list (pv_var 0)) (pv_isi z_isinstance (by decide +kernel) z_list (by decide +kernel) kn_list (pv_var 1)) (nomark _)) (pw_or1' (pt_cmp' op_ne o2_ne (pv_isi z_isinstance (by decide +kernel) z_tuple (by decide +kernel) kn_tuple (pv_var 0)) (pv_isi z_isinstance (by decide +kernel) z_tuple (by decide +kernel) kn_tuple (pv_var 1)) (nomark _))))) (pst_one (pst_ret pv_bl)) pst_nil)
  (pst_one (pst_ret (pv_and (pv_cmp op_eq o2_eq (pv_lenN 0 z_len PySem.boot_len) (pv_lenN 1 z_len PySem.boot_len) (nomark _)) (pv_one (pv_blt (cr_all rfl) b_all z_all (by decide +kernel) (par_cons (pv_of (pf_lc [("mine", 2), ("its", 3)] rfl nd (by kernel_rfl) (pit_zip z_zip (par_cons (pv_var 0) (par_cons (pv_var 1) par_nil))) (fun _ _ _ _ _ => (pgt_tup rfl (pgts_cons (pgt_name 2 nd) (pgts_cons (pgt_name 3 nd) pgts_nil)))) (fun _ _ _ _ _ => ptst_nil) (fun _ _ _ _ _ => (pv_call c__law_same (hr.mono (by omega)) (par_cons (pv_var 2) (par_cons (pv_var 3) par_nil)))))) par_nil))))))) pst_nil)
  (pst_cons (pst_if (pt_cmp' op_isN o2_isN (pv_var 1) pv_non (nomark _)) (pst_one (pst_ret (pv_cmp op_isN o2_isN (pv_var 0) pv_non (nomark _)))) pst_nil)
  (pst_cons (pst_if (pt_val' (pv_isi2 z_isinstance (by decide +kernel) z_bool (by decide +kernel) z_str (by decide +kernel) kn_bool kn_str (pv_var 1))) (pst_one (pst_ret (pv_and (pv_cmp op_eq o2_eq (pv_isi z_isinstance (by decide +kernel) z_bool (by decide +kernel) kn_bool (pv_var 0)) (pv_isi z_isinstance (by decide +kernel) z_bool (by decide +kernel) kn_bool (pv_var 1)) (nomark _)) (pv_and (pv_cmp op_eq o2_eq (pv_isi z_isinstance (by decide +kernel) z_str (by decide +kernel) kn_str (pv_var 0)) (pv_isi z_isinstance (by decide +kernel) z_str (by decide +kernel) kn_str (pv_var 1)) (nomark _)) (pv_one (pv_cmp op_eq o2_eq (pv_var 0) (pv_var 1) (nomark _))))))) pst_nil)
  (pst_one (pst_ret (pv_and (pv_isi z_isinstance (by decide +kernel) z_int (by decide +kernel) kn_int (pv_var 0)) (pv_and (pv_not (pv_isi z_isinstance (by decide +kernel) z_bool (by decide +kernel) kn_bool (pv_var 0))) (pv_one (pv_cmp op_eq o2_eq (pv_var 0) (pv_var 1) (nomark _)))))))))))) (sem__law_same 0 _ (fun _ h => nomatch h))
  | n + 1 => by
    have c__law_same : Cal P w K mg base (0 + n + 1) "_law_same" ["got", "due"] (spF K (S__law_sameN n)) := ⟨f, fd, okr__law_same F z_isinstance z_list z_tuple z_len z_all z_zip z_bool z_str z_int bn kb mg_ n, bn, kb, F.kp, mg_⟩
    exact fn_F rfl F sc__law_same (fun ds R h => len_of__law_same h) (fun cdv A outer s H E hr => by
    have nd := sc__law_same.nd
    exact (show PSts _ .d _ (rd__law_same_0 _) from (pst_cons (pst_if (pt_val' (pv_isi2 z_isinstance (by decide +kernel) z_list (by decide +kernel) z_tuple (by decide +kernel) kn_list kn_tuple (pv_var 1))) (pst_cons (pst_if (pt_of_pw (pw_or' (pt_cmp' op_ne o2_ne (pv_isi z_isinstance (by decide +kernel) z_list (by decide +kernel) kn_list (pv_var 0)) (pv_isi z_isinstance (by decide +kernel) z_list (by decide +kernel) kn_list (pv_var 1)) (nomark _)) (pw_or1' (pt_cmp' op_ne o2_ne (pv_isi z_isinstance (by decide +kernel) z_tuple (by decide +kernel) kn_tuple (pv_var 0)) (pv_isi z_isinstance (by decide +kernel) z_tuple (by decide +kernel) kn_tuple (pv_var 1)) (nomark _))))) (pst_one (pst_ret pv_bl)) pst_nil)
  (pst_one (pst_ret (pv_and (pv_cmp op_eq o2_eq (pv_lenN 0 z_len PySem.boot_len) (pv_lenN 1 z_len PySem.boot_len) (nomark _)) (pv_one (pv_blt (cr_all rfl) b_all z_all (by decide +kernel) (par_cons (pv_of (pf_lc [("mine", 2), ("its", 3)] rfl nd (by kernel_rfl) (pit_zip z_zip (par_cons (pv_var 0) (par_cons (pv_var 1) par_nil))) (fun _ _ _ _ _ => (pgt_tup rfl (pgts_cons (pgt_name 2 nd) (pgts_cons (pgt_name 3 nd) pgts_nil)))) (fun _ _ _ _ _ => ptst_nil) (fun _ _ _ _ _ => (pv_call c__law_same (hr.mono (by omega)) (par_cons (pv_var 2) (par_cons (pv_var 3) par_nil)))))) par_nil))))))) pst_nil)
  (pst_cons (pst_if (pt_cmp' op_isN o2_isN (pv_var 1) pv_non (nomark _)) (pst_one (pst_ret (pv_cmp op_isN o2_isN (pv_var 0) pv_non (nomark _)))) pst_nil)
  (pst_cons (pst_if (pt_val' (pv_isi2 z_isinstance (by decide +kernel) z_bool (by decide +kernel) z_str (by decide +kernel) kn_bool kn_str (pv_var 1))) (pst_one (pst_ret (pv_and (pv_cmp op_eq o2_eq (pv_isi z_isinstance (by decide +kernel) z_bool (by decide +kernel) kn_bool (pv_var 0)) (pv_isi z_isinstance (by decide +kernel) z_bool (by decide +kernel) kn_bool (pv_var 1)) (nomark _)) (pv_and (pv_cmp op_eq o2_eq (pv_isi z_isinstance (by decide +kernel) z_str (by decide +kernel) kn_str (pv_var 0)) (pv_isi z_isinstance (by decide +kernel) z_str (by decide +kernel) kn_str (pv_var 1)) (nomark _)) (pv_one (pv_cmp op_eq o2_eq (pv_var 0) (pv_var 1) (nomark _))))))) pst_nil)
  (pst_one (pst_ret (pv_and (pv_isi z_isinstance (by decide +kernel) z_int (by decide +kernel) kn_int (pv_var 0)) (pv_and (pv_not (pv_isi z_isinstance (by decide +kernel) z_bool (by decide +kernel) kn_bool (pv_var 0))) (pv_one (pv_cmp op_eq o2_eq (pv_var 0) (pv_var 1) (nomark _)))))))))))) (sem__law_same (n + 1) _ (fun m h => by cases h; rfl))
theorem sc__law_common : FnScope ["one_so", "two", "near", "far"] ["one_so", "two"] (defScope (top 65)) := ⟨rfl, rfl, rfl, by decide +kernel, rfl, by decide +kernel, by decide +kernel⟩
theorem ok__law_common {f : Addr} {fd : FuncData} (F : Fun K "_law_common" "_law_common" (top 65) f fd) (z_abs : mg "abs" = none) : FnOk P w K mg base CX0 1 f fd ["one_so", "two"] (spF K S__law_common) :=
  fn_F rfl F sc__law_common (fun ds R h => len_of__law_common h) (fun cdv A outer s H E hr => by
    have nd := sc__law_common.nd
    exact (show PSts _ .d _ rd__law_common_0 from (pst_cons (pst_par 2 3 rfl nd (par_cons (pv_blt call_abs b_abs z_abs (by decide +kernel) (par_cons (pv_var 0) par_nil)) (par_cons (pv_blt call_abs b_abs z_abs (by decide +kernel) (par_cons (pv_var 1) par_nil)) par_nil)))
  (pst_cons (pst_while (pt_cmp' op_ne o2_ne (pv_var 3) pv_int (nomark _)) (pst_one (pst_par 2 3 rfl nd (par_cons (pv_var 3) (par_cons (pv_bin op_mod o2_mod (pv_var 2) (pv_var 3)) par_nil)))))
  (pst_one (pst_ret (pv_var 2))))))) sem__law_common
theorem sc__law_rule : FnScope ["tin", "wide_so", "q"] ["tin", "wide_so"] (defScope (top 66)) := ⟨rfl, rfl, rfl, by decide +kernel, rfl, by decide +kernel, by decide +kernel⟩
theorem ok__law_rule {f : Addr} {fd : FuncData} (F : Fun K "_law_rule" "_law_rule" (top 66) f fd) (c__law_take : Cal P w K mg base 1 "_law_take" ["tin", "below_so"] (spM K S__law_take)) : FnOk P w K mg base CX0 2 f fd ["tin", "wide_so"] (spM K S__law_rule) :=
  fn_M rfl F sc__law_rule (fun z ds R h => len_of__law_rule h) (fun cdv A outer s H E hr => by
    have nd := sc__law_rule.nd
    exact (show PSts _ .m _ rd__law_rule_0 from (pst_cons (pst_set 2 nd (pv_bin op_add o2_add pv_int (pv_callM 0 c__law_take (hr.mono (by decide)) (par_cons (pv_var 1) par_nil))))
  (pst_one (pst_ret (pv_tup (par_cons (pv_bin op_sub o2_sub (pv_callM 0 c__law_take (hr.mono (by decide)) (par_cons (pv_bin op_add o2_add (pv_bin op_mulA o2_mul pv_int (pv_var 1)) pv_int) par_nil)) (pv_var 1)) (par_cons (pv_ifE (pt_cmp' op_eq o2_eq (pv_callM 0 c__law_take (hr.mono (by decide)) (par_cons pv_int par_nil)) pv_int (nomark _)) (pv_var 2) (pv_bin op_sub o2_sub pv_int (pv_var 2))) par_nil)))))))) sem__law_rule
theorem sc__law_us : FnScope ["rule_so", "many_so", "found", "lap"] ["rule_so", "many_so"] (defScope (top 67)) := ⟨rfl, rfl, rfl, by decide +kernel, rfl, by decide +kernel, by decide +kernel⟩
theorem ok__law_us {f : Addr} {fd : FuncData} (F : Fun K "_law_us" "_law_us" (top 67) f fd) (z_range : mg "range" = none) : FnOk P w K mg base CX0 1 f fd ["rule_so", "many_so"] (spF K S__law_us) :=
  fn_F rfl F sc__law_us (fun ds R h => len_of__law_us h) (fun cdv A outer s H E hr => by
    have nd := sc__law_us.nd
    exact (show PSts _ .d _ rd__law_us_0 from (pst_cons (pst_setO 2 nd (pf_lst (par_cons pv_int (par_cons pv_int par_nil))))
  (pst_cons (pst_for rfl (pit_r1 z_range (par_cons (pv_var 1) par_nil)) (pgt_name 3 nd) (pst_one (pst_app 2 (pv_bin op_sub o2_sub (pv_bin op_mulA o2_mul (pv_ixN 0 pv_int) (pv_ixN 2 (pv_un un_neg o1_neg pv_int))) (pv_bin op_mulA o2_mul (pv_ixN 0 pv_int) (pv_ixN 2 (pv_un un_neg o1_neg pv_int)))) (hp := fun h => pe_bm PySem.F.plainAttrs_list PySem.F.slot_list_append PySem.F.type_list_append mt_append (pv 2) h))))
  (pst_one (pst_ret (pv_of (pf_slc (pv_var 2) pot_none (pot_some (pv_var 1)))))))))) sem__law_us
theorem sc__law_vs : FnScope ["rule_so", "many_so", "found", "lap"] ["rule_so", "many_so"] (defScope (top 68)) := ⟨rfl, rfl, rfl, by decide +kernel, rfl, by decide +kernel, by decide +kernel⟩
theorem ok__law_vs {f : Addr} {fd : FuncData} (F : Fun K "_law_vs" "_law_vs" (top 68) f fd) (z_range : mg "range" = none) : FnOk P w K mg base CX0 1 f fd ["rule_so", "many_so"] (spF K S__law_vs) :=
  fn_F rfl F sc__law_vs (fun ds R h => len_of__law_vs h) (fun cdv A outer s H E hr => by
    have nd := sc__law_vs.nd
    exact (show PSts _ .d _ rd__law_vs_0 from (pst_cons (pst_setO 2 nd (pf_lst (par_cons pv_int (par_cons (pv_ixN 0 pv_int) par_nil))))
  (pst_cons (pst_for rfl (pit_r1 z_range (par_cons (pv_var 1) par_nil)) (pgt_name 3 nd) (pst_one (pst_app 2 (pv_bin op_sub o2_sub (pv_bin op_mulA o2_mul (pv_ixN 0 pv_int) (pv_ixN 2 (pv_un un_neg o1_neg pv_int))) (pv_bin op_mulA o2_mul (pv_ixN 0 pv_int) (pv_ixN 2 (pv_un un_neg o1_neg pv_int)))) (hp := fun h => pe_bm PySem.F.plainAttrs_list PySem.F.slot_list_append PySem.F.type_list_append mt_append (pv 2) h))))
  (pst_one (pst_ret (pv_of (pf_slc (pv_var 2) pot_none (pot_some (pv_var 1)))))))))) sem__law_vs
theorem sc__law_first : FnScope ["rule_so", "under_so", "most_so", "near", "far", "place_so"] ["rule_so", "under_so", "most_so"] (defScope (top 69)) := ⟨rfl, rfl, rfl, by decide +kernel, rfl, by decide +kernel, by decide +kernel⟩
theorem ok__law_first {f : Addr} {fd : FuncData} (F : Fun K "_law_first" "_law_first" (top 69) f fd) (z_range : mg "range" = none) : FnOk P w K mg base CX0 1 f fd ["rule_so", "under_so", "most_so"] (spF K S__law_first) :=
  fn_F rfl F sc__law_first (fun ds R h => len_of__law_first h) (fun cdv A outer s H E hr => by
    have nd := sc__law_first.nd
    exact (show PSts _ .d _ rd__law_first_0 from (pst_cons (pst_par 3 4 rfl nd (par_cons (pv_bin op_mod o2_mod pv_int (pv_var 1)) (par_cons (pv_bin op_mod o2_mod (pv_ixN 0 pv_int) (pv_var 1)) par_nil)))
  (pst_cons (pst_for rfl (pit_r2 z_range (par_cons pv_int (par_cons (pv_bin op_add o2_add (pv_var 2) pv_int) par_nil))) (pgt_name 5 nd) (pst_cons (pst_if (pt_cmp' op_eq o2_eq (pv_var 3) pv_int (nomark _)) (pst_one (pst_ret (pv_var 5))) pst_nil)
  (pst_one (pst_par 3 4 rfl nd (par_cons (pv_var 4) (par_cons (pv_bin op_mod o2_mod (pv_bin op_sub o2_sub (pv_bin op_mulA o2_mul (pv_ixN 0 pv_int) (pv_var 4)) (pv_bin op_mulA o2_mul (pv_ixN 0 pv_int) (pv_var 3))) (pv_var 1)) par_nil))))))
  (pst_one (pst_ret pv_int)))))) sem__law_first
theorem sc_law : FnScope ["script", "tin", "lap", "rule_so", "k", "vs_so", "us_so", "power_so", "turn", "wide_so", "n", "j", "m", "goods_so", "first_so"] ["script"] (defScope (top 70)) := ⟨rfl, rfl, rfl, by decide +kernel, rfl, by decide +kernel, by decide +kernel⟩
theorem ok_law {f : Addr} {fd : FuncData} (F : Fun K "law" "law" (top 70) f fd) (c__law_box : Cal P w K mg base 1 "_law_box" ["script", "k"] (spN K S__law_box)) (c__law_cells : Cal P w K mg base 1 "_law_cells" ["script", "most_so"] (spF K S__law_cells)) (c__law_rule : Cal P w K mg base 2 "_law_rule" ["tin", "wide_so"] (spM K S__law_rule)) (c__law_take : Cal P w K mg base 1 "_law_take" ["tin", "below_so"] (spM K S__law_take)) (c__law_us : Cal P w K mg base 1 "_law_us" ["rule_so", "many_so"] (spF K S__law_us)) (c__law_vs : Cal P w K mg base 1 "_law_vs" ["rule_so", "many_so"] (spF K S__law_vs)) (c_is_rule : Cal P w K mg base 4 "is_rule" ["thing"] (spF K S_is_rule)) (c_discriminant : Cal P w K mg base 11 "discriminant" ["rule"] (spF K S_discriminant)) (c_term : Cal P w K mg base 11 "term" ["rule", "number"] (spF K S_term)) (c__law_same : Cal P w K mg base 9 "_law_same" ["got", "due"] (spF K S__law_same)) (c_companion : Cal P w K mg base 11 "companion" ["rule", "number"] (spF K S_companion)) (c_quotient : Cal P w K mg base 11 "quotient" ["rule", "number", "often"] (spF K S_quotient)) (c_common_terms : Cal P w K mg base 12 "common_terms" ["rule", "one", "other"] (spF K S_common_terms)) (c_term_rest : Cal P w K mg base 11 "term_rest" ["rule", "number", "modulus"] (spF K S_term_rest)) (c_companion_rest : Cal P w K mg base 11 "companion_rest" ["rule", "number", "modulus"] (spF K S_companion_rest)) (c__law_common : Cal P w K mg base 1 "_law_common" ["one_so", "two"] (spF K S__law_common)) (c__law_of : Cal P w K mg base 2 "_law_of" ["tin", "goods_so"] (spM K S__law_of)) (c__law_first : Cal P w K mg base 1 "_law_first" ["rule_so", "under_so", "most_so"] (spF K S__law_first)) (c_first_place : Cal P w K mg base 12 "first_place" ["rule", "modulus"] (spF K S_first_place)) (c_round_of : Cal P w K mg base 11 "round_of" ["rule", "modulus"] (spF K S_round_of)) (z_range : mg "range" = none) (z_abs : mg "abs" = none) : FnOk P w K mg base CX0 13 f fd ["script"] (spF K S_law_k66) :=
  fn_F rfl F sc_law (fun ds R h => len_of_law_k66 h) (fun cdv A outer s H E hr => by
    have nd := sc_law.nd
    exact (show PSts _ .d _ rd_law_k66_0 from (pst_cons (pst_setO 1 nd (pf_callN c__law_box (hr.mono (by decide)) (par_cons (pv_call c__law_cells (hr.mono (by decide)) (par_cons (pv_var 0) (par_cons pv_int par_nil))) (par_cons pv_int par_nil))))
  (pst_cons (pst_for rfl (pit_r1 z_range (par_cons pv_int par_nil)) (pgt_name 2 nd) (pst_cons (pst_set 3 nd (pv_callM 1 c__law_rule (hr.mono (by decide)) (par_cons pv_int par_nil)))
  (pst_cons (pst_set 4 nd (pv_bin op_add o2_add pv_int (pv_callM 1 c__law_take (hr.mono (by decide)) (par_cons pv_int par_nil))))
  (pst_cons (pst_asg (pv_tup (par_cons (pv_call c__law_vs (hr.mono (by decide)) (par_cons (pv_var 3) (par_cons pv_int par_nil))) (par_cons (pv_call c__law_us (hr.mono (by decide)) (par_cons (pv_var 3) (par_cons pv_int par_nil))) par_nil))) (pgt_tup rfl (pgts_cons (pgt_name 5 nd) (pgts_cons (pgt_name 6 nd) pgts_nil))))
  (pst_cons (pst_set 7 nd pv_int)
  (pst_cons (pst_for rfl (pit_r1 z_range (par_cons (pv_var 4) par_nil)) (pgt_name 8 nd) (pst_one (pst_set 7 nd (pv_bin op_mulA o2_mul (pv_var 7) (pv_ixN 3 pv_int)))))
  (pst_cons (pst_if (pt_of_pw (pw_or' (pt_cmp' op_gt o2_gt (pv_blt call_abs b_abs z_abs (by decide +kernel) (par_cons (pv_ixN 5 (pv_var 4)) par_nil)) pv_int (nomark _)) (pw_or1' (pt_cmp' op_gt o2_gt (pv_blt call_abs b_abs z_abs (by decide +kernel) (par_cons (pv_var 7) par_nil)) pv_int (nomark _))))) (pst_one (pst_asg (pv_tup (par_cons (pv_bin op_add o2_add pv_int (pv_bin op_mod o2_mod (pv_var 4) pv_int)) (par_cons (pv_ifE (pt_cmp' op_eq o2_eq (pv_bin op_mod o2_mod (pv_var 4) pv_int) pv_int (nomark _)) (pv_ixN 3 pv_int) (pv_bin op_mulA o2_mul (pv_ixN 3 pv_int) (pv_ixN 3 pv_int))) par_nil))) (pgt_tup rfl (pgts_cons (pgt_name 4 nd) (pgts_cons (pgt_name 7 nd) pgts_nil))))) pst_nil)
  (pst_cons (pst_set 9 nd (pv_tup (par_cons (pv_ixN 5 (pv_var 4)) (par_cons (pv_var 7) par_nil))))
  (pst_cons (pst_if (pt_of_pw (pw_or' (pt_cmp' op_notBl o2_notB (pv_call c_is_rule (hr.mono (by decide)) (par_cons (pv_var 9) par_nil)) pv_bl (nomark _)) (pw_or1' (pt_cmp' op_ne o2_ne (pv_callK c_discriminant (hr.mono (by decide)) (pkr_cons (pv_var 9) pkr_nil)) (pv_bin op_mulA o2_mul (pv_bin op_mulA o2_mul (pv_callK c_discriminant (hr.mono (by decide)) (pkr_cons (pv_var 3) pkr_nil)) (pv_ixN 6 (pv_var 4))) (pv_ixN 6 (pv_var 4))) (nomark _))))) (pst_one (pst_ret pv_bl)) pst_nil)
  (pst_cons (pst_for rfl (pit_r1 z_range (par_cons pv_int par_nil)) (pgt_name 8 nd) (pst_cons (pst_par 10 11 rfl nd (par_cons (pv_callM 1 c__law_take (hr.mono (by decide)) (par_cons pv_int par_nil)) (par_cons (pv_callM 1 c__law_take (hr.mono (by decide)) (par_cons pv_int par_nil)) par_nil)))
  (pst_cons (pst_if (pt_of_pw (pw_or' (pt_cmp' op_ne o2_ne (pv_bin op_mulA o2_mul (pv_ixN 6 (pv_var 4)) (pv_callK c_term (hr.mono (by decide)) (pkr_cons (pv_var 9) (pkr_cons (pv_var 10) pkr_nil)))) (pv_ixN 6 (pv_bin op_mulA o2_mul (pv_var 4) (pv_var 10))) (nomark _)) (pw_or1' (pt_not' (pt_val' (pv_call c__law_same (hr.mono (by decide)) (par_cons (pv_callK c_companion (hr.mono (by decide)) (pkr_cons (pv_var 9) (pkr_cons (pv_var 10) pkr_nil))) (par_cons (pv_callK c_companion (hr.mono (by decide)) (pkr_cons (pv_var 3) (pkr_cons (pv_bin op_mulA o2_mul (pv_var 4) (pv_var 10)) pkr_nil))) par_nil)))))))) (pst_one (pst_ret pv_bl)) pst_nil)
  (pst_one (pst_if (pt_cmp' op_ne o2_ne (pv_ixN 6 (pv_var 4)) pv_int (nomark _)) (pst_cons (pst_if (pt_not' (pt_val' (pv_call c__law_same (hr.mono (by decide)) (par_cons (pv_callK c_quotient (hr.mono (by decide)) (pkr_cons (pv_var 3) (pkr_cons (pv_var 4) (pkr_cons (pv_var 10) pkr_nil)))) (par_cons (pv_callK c_term (hr.mono (by decide)) (pkr_cons (pv_var 9) (pkr_cons (pv_var 10) pkr_nil))) par_nil))))) (pst_one (pst_ret pv_bl)) pst_nil)
  (pst_one (pst_if (pt_not' (pt_val' (pv_call c__law_same (hr.mono (by decide)) (par_cons (pv_bin op_mulA o2_mul (pv_callK c_common_terms (hr.mono (by decide)) (pkr_cons (pv_var 9) (pkr_cons (pv_var 10) (pkr_cons (pv_var 11) pkr_nil)))) (pv_blt call_abs b_abs z_abs (by decide +kernel) (par_cons (pv_ixN 6 (pv_var 4)) par_nil))) (par_cons (pv_callK c_common_terms (hr.mono (by decide)) (pkr_cons (pv_var 3) (pkr_cons (pv_bin op_mulA o2_mul (pv_var 4) (pv_var 10)) (pkr_cons (pv_bin op_mulA o2_mul (pv_var 4) (pv_var 11)) pkr_nil)))) par_nil))))) (pst_one (pst_ret pv_bl)) pst_nil))) pst_nil)))))
  (pst_cons (pst_par 10 12 rfl nd (par_cons (pv_callM 1 c__law_take (hr.mono (by decide)) (par_cons (pv_bin op_pow o2_pow pv_int pv_int) par_nil)) (par_cons (pv_bin op_add o2_add pv_int (pv_callM 1 c__law_take (hr.mono (by decide)) (par_cons (pv_bin op_pow o2_pow pv_int pv_int) par_nil))) par_nil)))
  (pst_cons (pst_if (pt_cmp' op_ne o2_ne (pv_bin op_mod o2_mod (pv_bin op_mulA o2_mul (pv_ixN 6 (pv_var 4)) (pv_callK c_term_rest (hr.mono (by decide)) (pkr_cons (pv_var 9) (pkr_cons (pv_var 10) (pkr_cons (pv_var 12) pkr_nil))))) (pv_var 12)) (pv_callK c_term_rest (hr.mono (by decide)) (pkr_cons (pv_var 3) (pkr_cons (pv_bin op_mulA o2_mul (pv_var 4) (pv_var 10)) (pkr_cons (pv_var 12) pkr_nil)))) (nomark _)) (pst_one (pst_ret pv_bl)) pst_nil)
  (pst_cons (pst_if (pt_not' (pt_val' (pv_call c__law_same (hr.mono (by decide)) (par_cons (pv_callK c_companion_rest (hr.mono (by decide)) (pkr_cons (pv_var 9) (pkr_cons (pv_var 10) (pkr_cons (pv_var 12) pkr_nil)))) (par_cons (pv_callK c_companion_rest (hr.mono (by decide)) (pkr_cons (pv_var 3) (pkr_cons (pv_bin op_mulA o2_mul (pv_var 4) (pv_var 10)) (pkr_cons (pv_var 12) pkr_nil)))) par_nil))))) (pst_one (pst_ret pv_bl)) pst_nil)
  (pst_cons (pst_set 13 nd (pv_of (pf_ifE (pt_cmp' op_ne o2_ne (pv_ixN 6 (pv_var 4)) pv_int (nomark _)) (pf_lc [("j", 11)] rfl nd (by kernel_rfl) (pit_r2 z_range (par_cons pv_int (par_cons pv_int par_nil))) (fun _ _ _ _ _ => (pgt_name 11 nd)) (fun _ _ _ _ _ => (ptst_one (pt_cmp' op_eq o2_eq (pv_call c__law_common (hr.mono (by decide)) (par_cons (pv_var 11) (par_cons (pv_bin op_mulA o2_mul (pv_ixN 3 pv_int) (pv_ixN 6 (pv_var 4))) par_nil))) pv_int (nomark _)))) (fun _ _ _ _ _ => (pv_var 11))) (pf_lst (par_cons pv_int par_nil)))))
  (pst_cons (pst_set 12 nd (pv_callM 1 c__law_of (hr.mono (by decide)) (par_cons (pv_var 13) par_nil)))
  (pst_cons (pst_set 14 nd (pv_call c__law_first (hr.mono (by decide)) (par_cons (pv_var 3) (par_cons (pv_var 12) (par_cons (pv_bin op_mulA o2_mul (pv_var 12) (pv_var 12)) par_nil)))))
  (pst_cons (pst_if (pt_of_pw (pw_and' (pt_cmp' op_ne o2_ne (pv_ixN 6 (pv_var 4)) pv_int (nomark _)) (pw_and1' (pt_not' (pt_val' (pv_call c__law_same (hr.mono (by decide)) (par_cons (pv_callK c_first_place (hr.mono (by decide)) (pkr_cons (pv_var 9) (pkr_cons (pv_var 12) pkr_nil))) (par_cons (pv_bin op_fdivW o2_div (pv_var 14) (pv_call c__law_common (hr.mono (by decide)) (par_cons (pv_var 14) (par_cons (pv_var 4) par_nil)))) par_nil)))))))) (pst_one (pst_ret pv_bl)) pst_nil)
  (pst_one (pst_if (pt_cmp' op_ne o2_ne (pv_bin op_mod o2_mod (pv_callK c_round_of (hr.mono (by decide)) (pkr_cons (pv_var 3) (pkr_cons (pv_var 12) pkr_nil))) (pv_ifE (pt_cmp' op_ne o2_ne (pv_ixN 6 (pv_var 4)) pv_int (nomark _)) (pv_callK c_round_of (hr.mono (by decide)) (pkr_cons (pv_var 9) (pkr_cons (pv_var 12) pkr_nil))) pv_int)) pv_int (nomark _)) (pst_one (pst_ret pv_bl)) pst_nil)))))))))))))))))))
  (pst_one (pst_ret pv_bl)))))) sem_law_k66
end
theorem all_mk {P : Program} {w : World} {K : PySem.W.Frag} {mg : Str → Option Value} {fa : Addr} (hfa : mg "law" = some (.ref fa))
  (h_is_number : ∃ f fd, Fun K "is_number" "is_number" (top 4) f fd ∧ mg "is_number" = some (.ref f))
  (h_is_within : ∃ f fd, Fun K "is_within" "is_within" (top 5) f fd ∧ mg "is_within" = some (.ref f))
  (h_is_long : ∃ f fd, Fun K "is_long" "is_long" (top 6) f fd ∧ mg "is_long" = some (.ref f))
  (h_are_numbers : ∃ f fd, Fun K "are_numbers" "are_numbers" (top 7) f fd ∧ mg "are_numbers" = some (.ref f))
  (h_tupled : ∃ f fd, Fun K "tupled" "tupled" (top 8) f fd ∧ mg "tupled" = some (.ref f))
  (h_sure_within : ∃ f fd, Fun K "sure_within" "sure_within" (top 9) f fd ∧ mg "sure_within" = some (.ref f))
  (h_common : ∃ f fd, Fun K "common" "common" (top 10) f fd ∧ mg "common" = some (.ref f))
  (h_lcm : ∃ f fd, Fun K "lcm" "lcm" (top 11) f fd ∧ mg "lcm" = some (.ref f))
  (h_primes_of : ∃ f fd, Fun K "primes_of" "primes_of" (top 12) f fd ∧ mg "primes_of" = some (.ref f))
  (h_power_mod : ∃ f fd, Fun K "power_mod" "power_mod" (top 13) f fd ∧ mg "power_mod" = some (.ref f))
  (h_step_order : ∃ f fd, Fun K "step_order" "step_order" (top 15) f fd ∧ mg "step_order" = some (.ref f))
  (h_order_in : ∃ f fd, Fun K "order_in" "order_in" (top 14) f fd ∧ mg "order_in" = some (.ref f))
  (h_jacobi_in : ∃ f fd, Fun K "jacobi_in" "jacobi_in" (top 16) f fd ∧ mg "jacobi_in" = some (.ref f))
  (h_is_rule_in : ∃ f fd, Fun K "is_rule_in" "is_rule_in" (top 20) f fd ∧ mg "is_rule_in" = some (.ref f))
  (h_sure_rule : ∃ f fd, Fun K "sure_rule" "sure_rule" (top 21) f fd ∧ mg "sure_rule" = some (.ref f))
  (h_big_d : ∃ f fd, Fun K "big_d" "big_d" (top 22) f fd ∧ mg "big_d" = some (.ref f))
  (h_terms_in : ∃ f fd, Fun K "terms_in" "terms_in" (top 23) f fd ∧ mg "terms_in" = some (.ref f))
  (h_zero_in : ∃ f fd, Fun K "zero_in" "zero_in" (top 24) f fd ∧ mg "zero_in" = some (.ref f))
  (h_is_rule : ∃ f fd, Fun K "is_rule" "is_rule" (top 25) f fd ∧ mg "is_rule" = some (.ref f))
  (h_discriminant : ∃ f fd, Fun K "discriminant" "discriminant" (top 26) f fd ∧ mg "discriminant" = some (.ref f))
  (h_term : ∃ f fd, Fun K "term" "term" (top 27) f fd ∧ mg "term" = some (.ref f))
  (h_companion : ∃ f fd, Fun K "companion" "companion" (top 28) f fd ∧ mg "companion" = some (.ref f))
  (h_digits_of : ∃ f fd, Fun K "digits_of" "digits_of" (top 32) f fd ∧ mg "digits_of" = some (.ref f))
  (h_pair_mod : ∃ f fd, Fun K "pair_mod" "pair_mod" (top 33) f fd ∧ mg "pair_mod" = some (.ref f))
  (h_v_mod : ∃ f fd, Fun K "v_mod" "v_mod" (top 34) f fd ∧ mg "v_mod" = some (.ref f))
  (h_sure_far : ∃ f fd, Fun K "sure_far" "sure_far" (top 35) f fd ∧ mg "sure_far" = some (.ref f))
  (h_term_rest : ∃ f fd, Fun K "term_rest" "term_rest" (top 36) f fd ∧ mg "term_rest" = some (.ref f))
  (h_companion_rest : ∃ f fd, Fun K "companion_rest" "companion_rest" (top 37) f fd ∧ mg "companion_rest" = some (.ref f))
  (h_two_terms : ∃ f fd, Fun K "two_terms" "two_terms" (top 39) f fd ∧ mg "two_terms" = some (.ref f))
  (h_common_terms : ∃ f fd, Fun K "common_terms" "common_terms" (top 40) f fd ∧ mg "common_terms" = some (.ref f))
  (h_quotient : ∃ f fd, Fun K "quotient" "quotient" (top 41) f fd ∧ mg "quotient" = some (.ref f))
  (h_bound_in : ∃ f fd, Fun K "bound_in" "bound_in" (top 44) f fd ∧ mg "bound_in" = some (.ref f))
  (h_least_part : ∃ f fd, Fun K "least_part" "least_part" (top 45) f fd ∧ mg "least_part" = some (.ref f))
  (h_prime_place_in : ∃ f fd, Fun K "prime_place_in" "prime_place_in" (top 46) f fd ∧ mg "prime_place_in" = some (.ref f))
  (h_ground_in : ∃ f fd, Fun K "ground_in" "ground_in" (top 47) f fd ∧ mg "ground_in" = some (.ref f))
  (h_excess_in : ∃ f fd, Fun K "excess_in" "excess_in" (top 48) f fd ∧ mg "excess_in" = some (.ref f))
  (h_power_place_in : ∃ f fd, Fun K "power_place_in" "power_place_in" (top 49) f fd ∧ mg "power_place_in" = some (.ref f))
  (h_first_place_in : ∃ f fd, Fun K "first_place_in" "first_place_in" (top 50) f fd ∧ mg "first_place_in" = some (.ref f))
  (h_sure_prime_to : ∃ f fd, Fun K "sure_prime_to" "sure_prime_to" (top 51) f fd ∧ mg "sure_prime_to" = some (.ref f))
  (h_first_place : ∃ f fd, Fun K "first_place" "first_place" (top 52) f fd ∧ mg "first_place" = some (.ref f))
  (h_sure_coprime : ∃ f fd, Fun K "sure_coprime" "sure_coprime" (top 55) f fd ∧ mg "sure_coprime" = some (.ref f))
  (h_multiplier_in : ∃ f fd, Fun K "multiplier_in" "multiplier_in" (top 56) f fd ∧ mg "multiplier_in" = some (.ref f))
  (h_round_in : ∃ f fd, Fun K "round_in" "round_in" (top 57) f fd ∧ mg "round_in" = some (.ref f))
  (h_round_of : ∃ f fd, Fun K "round_of" "round_of" (top 58) f fd ∧ mg "round_of" = some (.ref f))
  (h__law_box : ∃ f fd, Fun K "_law_box" "_law_box" (top 60) f fd ∧ mg "_law_box" = some (.ref f))
  (h__law_take : ∃ f fd, Fun K "_law_take" "_law_take" (top 61) f fd ∧ mg "_law_take" = some (.ref f))
  (h__law_cells : ∃ f fd, Fun K "_law_cells" "_law_cells" (top 62) f fd ∧ mg "_law_cells" = some (.ref f))
  (h__law_of : ∃ f fd, Fun K "_law_of" "_law_of" (top 63) f fd ∧ mg "_law_of" = some (.ref f))
  (h__law_same : ∃ f fd, Fun K "_law_same" "_law_same" (top 64) f fd ∧ mg "_law_same" = some (.ref f))
  (h__law_common : ∃ f fd, Fun K "_law_common" "_law_common" (top 65) f fd ∧ mg "_law_common" = some (.ref f))
  (h__law_rule : ∃ f fd, Fun K "_law_rule" "_law_rule" (top 66) f fd ∧ mg "_law_rule" = some (.ref f))
  (h__law_us : ∃ f fd, Fun K "_law_us" "_law_us" (top 67) f fd ∧ mg "_law_us" = some (.ref f))
  (h__law_vs : ∃ f fd, Fun K "_law_vs" "_law_vs" (top 68) f fd ∧ mg "_law_vs" = some (.ref f))
  (h__law_first : ∃ f fd, Fun K "_law_first" "_law_first" (top 69) f fd ∧ mg "_law_first" = some (.ref f))
  (h_law : ∃ f fd, Fun K "law" "law" (top 70) f fd ∧ mg "law" = some (.ref f))
  (z_isinstance : mg "isinstance" = none) (z_int : mg "int" = none) (z_bool : mg "bool" = none) (z_tuple : mg "tuple" = none) (z_len : mg "len" = none) (z_all : mg "all" = none) (z_list : mg "list" = none) (z_abs : mg "abs" = none) (z_range : mg "range" = none) (z_enumerate : mg "enumerate" = none) (z_max : mg "max" = none) (z_zip : mg "zip" = none) (z_str : mg "str" = none)
  (g_MOST_RULE : ∃ t, mg "MOST_RULE" = some (.int 1000 t)) (g_MOST_TERM : ∃ t, mg "MOST_TERM" = some (.int 3000 t)) (g_MOST_FAR : ∃ t, mg "MOST_FAR" = some (.int 1000000000000000000 t)) (g_MOST_MODULUS_far : ∃ t, mg "MOST_MODULUS_far" = some (.int 1000000000000000000000000000000 t)) (g_MOST_FOUND : ∃ t, mg "MOST_FOUND" = some (.int 1000000000 t)) (g_MOST_MODULUS_rounds : ∃ t, mg "MOST_MODULUS_rounds" = some (.int 1000000000 t)) :
    ∃ fd : FuncData, (∀ (s : Shared) (u : Value), BindsTo s fd ⟨[u], []⟩ [("script", u)]) ∧ ∀ base : Heap, FnOk P w K mg base CX0 13 fa fd ["script"] (spF K S_law_k66) := by
  obtain ⟨f_is_number, fd_is_number, F_is_number, M_is_number⟩ := h_is_number
  obtain ⟨f_is_within, fd_is_within, F_is_within, M_is_within⟩ := h_is_within
  obtain ⟨f_is_long, fd_is_long, F_is_long, M_is_long⟩ := h_is_long
  obtain ⟨f_are_numbers, fd_are_numbers, F_are_numbers, M_are_numbers⟩ := h_are_numbers
  obtain ⟨f_tupled, fd_tupled, F_tupled, M_tupled⟩ := h_tupled
  obtain ⟨f_sure_within, fd_sure_within, F_sure_within, M_sure_within⟩ := h_sure_within
  obtain ⟨f_common, fd_common, F_common, M_common⟩ := h_common
  obtain ⟨f_lcm, fd_lcm, F_lcm, M_lcm⟩ := h_lcm
  obtain ⟨f_primes_of, fd_primes_of, F_primes_of, M_primes_of⟩ := h_primes_of
  obtain ⟨f_power_mod, fd_power_mod, F_power_mod, M_power_mod⟩ := h_power_mod
  obtain ⟨f_step_order, fd_step_order, F_step_order, M_step_order⟩ := h_step_order
  obtain ⟨f_order_in, fd_order_in, F_order_in, M_order_in⟩ := h_order_in
  obtain ⟨f_jacobi_in, fd_jacobi_in, F_jacobi_in, M_jacobi_in⟩ := h_jacobi_in
  obtain ⟨f_is_rule_in, fd_is_rule_in, F_is_rule_in, M_is_rule_in⟩ := h_is_rule_in
  obtain ⟨f_sure_rule, fd_sure_rule, F_sure_rule, M_sure_rule⟩ := h_sure_rule
  obtain ⟨f_big_d, fd_big_d, F_big_d, M_big_d⟩ := h_big_d
  obtain ⟨f_terms_in, fd_terms_in, F_terms_in, M_terms_in⟩ := h_terms_in
  obtain ⟨f_zero_in, fd_zero_in, F_zero_in, M_zero_in⟩ := h_zero_in
  obtain ⟨f_is_rule, fd_is_rule, F_is_rule, M_is_rule⟩ := h_is_rule
  obtain ⟨f_discriminant, fd_discriminant, F_discriminant, M_discriminant⟩ := h_discriminant
  obtain ⟨f_term, fd_term, F_term, M_term⟩ := h_term
  obtain ⟨f_companion, fd_companion, F_companion, M_companion⟩ := h_companion
  obtain ⟨f_digits_of, fd_digits_of, F_digits_of, M_digits_of⟩ := h_digits_of
  obtain ⟨f_pair_mod, fd_pair_mod, F_pair_mod, M_pair_mod⟩ := h_pair_mod
  obtain ⟨f_v_mod, fd_v_mod, F_v_mod, M_v_mod⟩ := h_v_mod
  obtain ⟨f_sure_far, fd_sure_far, F_sure_far, M_sure_far⟩ := h_sure_far
  obtain ⟨f_term_rest, fd_term_rest, F_term_rest, M_term_rest⟩ := h_term_rest
  obtain ⟨f_companion_rest, fd_companion_rest, F_companion_rest, M_companion_rest⟩ := h_companion_rest
  obtain ⟨f_two_terms, fd_two_terms, F_two_terms, M_two_terms⟩ := h_two_terms
  obtain ⟨f_common_terms, fd_common_terms, F_common_terms, M_common_terms⟩ := h_common_terms
  obtain ⟨f_quotient, fd_quotient, F_quotient, M_quotient⟩ := h_quotient
  obtain ⟨f_bound_in, fd_bound_in, F_bound_in, M_bound_in⟩ := h_bound_in
  obtain ⟨f_least_part, fd_least_part, F_least_part, M_least_part⟩ := h_least_part
  obtain ⟨f_prime_place_in, fd_prime_place_in, F_prime_place_in, M_prime_place_in⟩ := h_prime_place_in
  obtain ⟨f_ground_in, fd_ground_in, F_ground_in, M_ground_in⟩ := h_ground_in
  obtain ⟨f_excess_in, fd_excess_in, F_excess_in, M_excess_in⟩ := h_excess_in
  obtain ⟨f_power_place_in, fd_power_place_in, F_power_place_in, M_power_place_in⟩ := h_power_place_in
  obtain ⟨f_first_place_in, fd_first_place_in, F_first_place_in, M_first_place_in⟩ := h_first_place_in
  obtain ⟨f_sure_prime_to, fd_sure_prime_to, F_sure_prime_to, M_sure_prime_to⟩ := h_sure_prime_to
  obtain ⟨f_first_place, fd_first_place, F_first_place, M_first_place⟩ := h_first_place
  obtain ⟨f_sure_coprime, fd_sure_coprime, F_sure_coprime, M_sure_coprime⟩ := h_sure_coprime
  obtain ⟨f_multiplier_in, fd_multiplier_in, F_multiplier_in, M_multiplier_in⟩ := h_multiplier_in
  obtain ⟨f_round_in, fd_round_in, F_round_in, M_round_in⟩ := h_round_in
  obtain ⟨f_round_of, fd_round_of, F_round_of, M_round_of⟩ := h_round_of
  obtain ⟨f__law_box, fd__law_box, F__law_box, M__law_box⟩ := h__law_box
  obtain ⟨f__law_take, fd__law_take, F__law_take, M__law_take⟩ := h__law_take
  obtain ⟨f__law_cells, fd__law_cells, F__law_cells, M__law_cells⟩ := h__law_cells
  obtain ⟨f__law_of, fd__law_of, F__law_of, M__law_of⟩ := h__law_of
  obtain ⟨f__law_same, fd__law_same, F__law_same, M__law_same⟩ := h__law_same
  obtain ⟨f__law_common, fd__law_common, F__law_common, M__law_common⟩ := h__law_common
  obtain ⟨f__law_rule, fd__law_rule, F__law_rule, M__law_rule⟩ := h__law_rule
  obtain ⟨f__law_us, fd__law_us, F__law_us, M__law_us⟩ := h__law_us
  obtain ⟨f__law_vs, fd__law_vs, F__law_vs, M__law_vs⟩ := h__law_vs
  obtain ⟨f__law_first, fd__law_first, F__law_first, M__law_first⟩ := h__law_first
  obtain ⟨f_law, fd_law, F_law, M_law⟩ := h_law
  have e := hfa.symm.trans M_law
  cases e
  refine ⟨fd_law, bind_law F_law fun _ _ _ _ _ _ _ => rfl, fun base => ?_⟩
  have b_is_number : Binds K fd_is_number ["thing"] [] := F_is_number.binds (ps := ["thing"]) fun _ _ _ _ _ _ us hl => match us, hl with | [_], _ => rfl
  have k_is_number : KwB fd_is_number ["thing"] := kwb_of (ps := ["thing"]) F_is_number fun _ _ _ _ _ _ us hl => match us, hl with | [_], _ => rfl
  have c_is_number : Cal P w K mg base 1 "is_number" ["thing"] (spF K S_is_number) := ⟨⟨f_is_number, fd_is_number, ok_is_number F_is_number z_isinstance z_int z_bool, b_is_number, k_is_number, F_is_number.kp, M_is_number⟩⟩
  have b_is_within : Binds K fd_is_within ["thing", "least", "most"] [] := F_is_within.binds (ps := ["thing", "least", "most"]) fun _ _ _ _ _ _ us hl => match us, hl with | [_, _, _], _ => rfl
  have k_is_within : KwB fd_is_within ["thing", "least", "most"] := kwb_of (ps := ["thing", "least", "most"]) F_is_within fun _ _ _ _ _ _ us hl => match us, hl with | [_, _, _], _ => rfl
  have c_is_within : Cal P w K mg base 2 "is_within" ["thing", "least", "most"] (spF K S_is_within) := ⟨⟨f_is_within, fd_is_within, ok_is_within F_is_within c_is_number, b_is_within, k_is_within, F_is_within.kp, M_is_within⟩⟩
  have b_is_long : Binds K fd_is_long ["thing", "length"] [] := F_is_long.binds (ps := ["thing", "length"]) fun _ _ _ _ _ _ us hl => match us, hl with | [_, _], _ => rfl
  have k_is_long : KwB fd_is_long ["thing", "length"] := kwb_of (ps := ["thing", "length"]) F_is_long fun _ _ _ _ _ _ us hl => match us, hl with | [_, _], _ => rfl
  have c_is_long : Cal P w K mg base 1 "is_long" ["thing", "length"] (spF K S_is_long) := ⟨⟨f_is_long, fd_is_long, ok_is_long F_is_long z_isinstance z_tuple z_len, b_is_long, k_is_long, F_is_long.kp, M_is_long⟩⟩
  have b_are_numbers : Binds K fd_are_numbers ["thing"] [] := F_are_numbers.binds (ps := ["thing"]) fun _ _ _ _ _ _ us hl => match us, hl with | [_], _ => rfl
  have k_are_numbers : KwB fd_are_numbers ["thing"] := kwb_of (ps := ["thing"]) F_are_numbers fun _ _ _ _ _ _ us hl => match us, hl with | [_], _ => rfl
  have c_are_numbers : Cal P w K mg base 2 "are_numbers" ["thing"] (spF K S_are_numbers) := ⟨⟨f_are_numbers, fd_are_numbers, ok_are_numbers F_are_numbers c_is_number z_isinstance z_tuple z_all, b_are_numbers, k_are_numbers, F_are_numbers.kp, M_are_numbers⟩⟩
  have b_tupled : Binds K fd_tupled ["value"] [] := F_tupled.binds (ps := ["value"]) fun _ _ _ _ _ _ us hl => match us, hl with | [_], _ => rfl
  have k_tupled : KwB fd_tupled ["value"] := kwb_of (ps := ["value"]) F_tupled fun _ _ _ _ _ _ us hl => match us, hl with | [_], _ => rfl
  have c_tupled : Cal P w K mg base 9 "tupled" ["value"] (spF K S_tupled) := ⟨⟨f_tupled, fd_tupled, okr_tupled F_tupled z_isinstance z_list z_tuple b_tupled k_tupled M_tupled 8, b_tupled, k_tupled, F_tupled.kp, M_tupled⟩⟩
  have b_sure_within : Binds K fd_sure_within ["thing", "least", "most"] [] := F_sure_within.binds (ps := ["thing", "least", "most"]) fun _ _ _ _ _ _ us hl => match us, hl with | [_, _, _], _ => rfl
  have k_sure_within : KwB fd_sure_within ["thing", "least", "most"] := kwb_of (ps := ["thing", "least", "most"]) F_sure_within fun _ _ _ _ _ _ us hl => match us, hl with | [_, _, _], _ => rfl
  have c_sure_within : Cal P w K mg base 3 "sure_within" ["thing", "least", "most"] (spF K S_sure_within) := ⟨⟨f_sure_within, fd_sure_within, ok_sure_within F_sure_within c_is_within, b_sure_within, k_sure_within, F_sure_within.kp, M_sure_within⟩⟩
  have b_common : Binds K fd_common ["one", "other"] [] := F_common.binds (ps := ["one", "other"]) fun _ _ _ _ _ _ us hl => match us, hl with | [_, _], _ => rfl
  have k_common : KwB fd_common ["one", "other"] := kwb_of (ps := ["one", "other"]) F_common fun _ _ _ _ _ _ us hl => match us, hl with | [_, _], _ => rfl
  have c_common : Cal P w K mg base 1 "common" ["one", "other"] (spF K S_common) := ⟨⟨f_common, fd_common, ok_common F_common z_abs, b_common, k_common, F_common.kp, M_common⟩⟩
  have b_lcm : Binds K fd_lcm ["one", "other"] [] := F_lcm.binds (ps := ["one", "other"]) fun _ _ _ _ _ _ us hl => match us, hl with | [_, _], _ => rfl
  have k_lcm : KwB fd_lcm ["one", "other"] := kwb_of (ps := ["one", "other"]) F_lcm fun _ _ _ _ _ _ us hl => match us, hl with | [_, _], _ => rfl
  have c_lcm : Cal P w K mg base 2 "lcm" ["one", "other"] (spF K S_lcm) := ⟨⟨f_lcm, fd_lcm, ok_lcm F_lcm c_common, b_lcm, k_lcm, F_lcm.kp, M_lcm⟩⟩
  have b_primes_of : Binds K fd_primes_of ["number"] [] := F_primes_of.binds (ps := ["number"]) fun _ _ _ _ _ _ us hl => match us, hl with | [_], _ => rfl
  have k_primes_of : KwB fd_primes_of ["number"] := kwb_of (ps := ["number"]) F_primes_of fun _ _ _ _ _ _ us hl => match us, hl with | [_], _ => rfl
  have c_primes_of : Cal P w K mg base 1 "primes_of" ["number"] (spF K S_primes_of) := ⟨⟨f_primes_of, fd_primes_of, ok_primes_of F_primes_of z_tuple, b_primes_of, k_primes_of, F_primes_of.kp, M_primes_of⟩⟩
  have b_power_mod : Binds K fd_power_mod ["one", "often", "modulus"] [] := F_power_mod.binds (ps := ["one", "often", "modulus"]) fun _ _ _ _ _ _ us hl => match us, hl with | [_, _, _], _ => rfl
  have k_power_mod : KwB fd_power_mod ["one", "often", "modulus"] := kwb_of (ps := ["one", "often", "modulus"]) F_power_mod fun _ _ _ _ _ _ us hl => match us, hl with | [_, _, _], _ => rfl
  have c_power_mod : Cal P w K mg base 1 "power_mod" ["one", "often", "modulus"] (spF K S_power_mod) := ⟨⟨f_power_mod, fd_power_mod, ok_power_mod F_power_mod , b_power_mod, k_power_mod, F_power_mod.kp, M_power_mod⟩⟩
  have b_step_order : Binds K fd_step_order ["prime", "often"] [] := F_step_order.binds (ps := ["prime", "often"]) fun _ _ _ _ _ _ us hl => match us, hl with | [_, _], _ => rfl
  have k_step_order : KwB fd_step_order ["prime", "often"] := kwb_of (ps := ["prime", "often"]) F_step_order fun _ _ _ _ _ _ us hl => match us, hl with | [_, _], _ => rfl
  have c_step_order : Cal P w K mg base 1 "step_order" ["prime", "often"] (spF K S_step_order) := ⟨⟨f_step_order, fd_step_order, ok_step_order F_step_order z_range, b_step_order, k_step_order, F_step_order.kp, M_step_order⟩⟩
  have b_order_in : Binds K fd_order_in ["one", "modulus"] [] := F_order_in.binds (ps := ["one", "modulus"]) fun _ _ _ _ _ _ us hl => match us, hl with | [_, _], _ => rfl
  have k_order_in : KwB fd_order_in ["one", "modulus"] := kwb_of (ps := ["one", "modulus"]) F_order_in fun _ _ _ _ _ _ us hl => match us, hl with | [_, _], _ => rfl
  have c_order_in : Cal P w K mg base 3 "order_in" ["one", "modulus"] (spF K S_order_in) := ⟨⟨f_order_in, fd_order_in, ok_order_in F_order_in c_primes_of c_lcm c_step_order c_power_mod, b_order_in, k_order_in, F_order_in.kp, M_order_in⟩⟩
  have b_jacobi_in : Binds K fd_jacobi_in ["one", "odd"] [] := F_jacobi_in.binds (ps := ["one", "odd"]) fun _ _ _ _ _ _ us hl => match us, hl with | [_, _], _ => rfl
  have k_jacobi_in : KwB fd_jacobi_in ["one", "odd"] := kwb_of (ps := ["one", "odd"]) F_jacobi_in fun _ _ _ _ _ _ us hl => match us, hl with | [_, _], _ => rfl
  have c_jacobi_in : Cal P w K mg base 1 "jacobi_in" ["one", "odd"] (spF K S_jacobi_in) := ⟨⟨f_jacobi_in, fd_jacobi_in, ok_jacobi_in F_jacobi_in , b_jacobi_in, k_jacobi_in, F_jacobi_in.kp, M_jacobi_in⟩⟩
  have b_is_rule_in : Binds K fd_is_rule_in ["thing"] [] := F_is_rule_in.binds (ps := ["thing"]) fun _ _ _ _ _ _ us hl => match us, hl with | [_], _ => rfl
  have k_is_rule_in : KwB fd_is_rule_in ["thing"] := kwb_of (ps := ["thing"]) F_is_rule_in fun _ _ _ _ _ _ us hl => match us, hl with | [_], _ => rfl
  have c_is_rule_in : Cal P w K mg base 3 "is_rule_in" ["thing"] (spF K S_is_rule_in) := ⟨⟨f_is_rule_in, fd_is_rule_in, ok_is_rule_in F_is_rule_in c_is_long c_are_numbers z_all z_abs g_MOST_RULE, b_is_rule_in, k_is_rule_in, F_is_rule_in.kp, M_is_rule_in⟩⟩
  have b_sure_rule : Binds K fd_sure_rule ["value"] [] := F_sure_rule.binds (ps := ["value"]) fun _ _ _ _ _ _ us hl => match us, hl with | [_], _ => rfl
  have k_sure_rule : KwB fd_sure_rule ["value"] := kwb_of (ps := ["value"]) F_sure_rule fun _ _ _ _ _ _ us hl => match us, hl with | [_], _ => rfl
  have c_sure_rule : Cal P w K mg base 10 "sure_rule" ["value"] (spF K S_sure_rule) := ⟨⟨f_sure_rule, fd_sure_rule, ok_sure_rule F_sure_rule c_tupled c_is_rule_in, b_sure_rule, k_sure_rule, F_sure_rule.kp, M_sure_rule⟩⟩
  have b_big_d : Binds K fd_big_d ["rule"] [] := F_big_d.binds (ps := ["rule"]) fun _ _ _ _ _ _ us hl => match us, hl with | [_], _ => rfl
  have k_big_d : KwB fd_big_d ["rule"] := kwb_of (ps := ["rule"]) F_big_d fun _ _ _ _ _ _ us hl => match us, hl with | [_], _ => rfl
  have c_big_d : Cal P w K mg base 1 "big_d" ["rule"] (spF K S_big_d) := ⟨⟨f_big_d, fd_big_d, ok_big_d F_big_d , b_big_d, k_big_d, F_big_d.kp, M_big_d⟩⟩
  have b_terms_in : Binds K fd_terms_in ["rule", "kind", "many"] [] := F_terms_in.binds (ps := ["rule", "kind", "many"]) fun _ _ _ _ _ _ us hl => match us, hl with | [_, _, _], _ => rfl
  have k_terms_in : KwB fd_terms_in ["rule", "kind", "many"] := kwb_of (ps := ["rule", "kind", "many"]) F_terms_in fun _ _ _ _ _ _ us hl => match us, hl with | [_, _, _], _ => rfl
  have c_terms_in : Cal P w K mg base 1 "terms_in" ["rule", "kind", "many"] (spF K S_terms_in) := ⟨⟨f_terms_in, fd_terms_in, ok_terms_in F_terms_in z_len, b_terms_in, k_terms_in, F_terms_in.kp, M_terms_in⟩⟩
  have b_zero_in : Binds K fd_zero_in ["rule"] [] := F_zero_in.binds (ps := ["rule"]) fun _ _ _ _ _ _ us hl => match us, hl with | [_], _ => rfl
  have k_zero_in : KwB fd_zero_in ["rule"] := kwb_of (ps := ["rule"]) F_zero_in fun _ _ _ _ _ _ us hl => match us, hl with | [_], _ => rfl
  have c_zero_in : Cal P w K mg base 2 "zero_in" ["rule"] (spF K S_zero_in) := ⟨⟨f_zero_in, fd_zero_in, ok_zero_in F_zero_in c_terms_in z_enumerate, b_zero_in, k_zero_in, F_zero_in.kp, M_zero_in⟩⟩
  have b_is_rule : Binds K fd_is_rule ["thing"] [] := F_is_rule.binds (ps := ["thing"]) fun _ _ _ _ _ _ us hl => match us, hl with | [_], _ => rfl
  have k_is_rule : KwB fd_is_rule ["thing"] := kwb_of (ps := ["thing"]) F_is_rule fun _ _ _ _ _ _ us hl => match us, hl with | [_], _ => rfl
  have c_is_rule : Cal P w K mg base 4 "is_rule" ["thing"] (spF K S_is_rule) := ⟨⟨f_is_rule, fd_is_rule, ok_is_rule F_is_rule c_is_rule_in, b_is_rule, k_is_rule, F_is_rule.kp, M_is_rule⟩⟩
  have b_discriminant : Binds K fd_discriminant ["rule"] [] := F_discriminant.binds (ps := ["rule"]) fun _ _ _ _ _ _ us hl => match us, hl with | [_], _ => rfl
  have k_discriminant : KwB fd_discriminant ["rule"] := kwb_of (ps := ["rule"]) F_discriminant fun _ _ _ _ _ _ us hl => match us, hl with | [_], _ => rfl
  have c_discriminant : Cal P w K mg base 11 "discriminant" ["rule"] (spF K S_discriminant) := ⟨⟨f_discriminant, fd_discriminant, ok_discriminant F_discriminant c_big_d c_sure_rule, b_discriminant, k_discriminant, F_discriminant.kp, M_discriminant⟩⟩
  have b_term : Binds K fd_term ["rule", "number"] [] := F_term.binds (ps := ["rule", "number"]) fun _ _ _ _ _ _ us hl => match us, hl with | [_, _], _ => rfl
  have k_term : KwB fd_term ["rule", "number"] := kwb_of (ps := ["rule", "number"]) F_term fun _ _ _ _ _ _ us hl => match us, hl with | [_, _], _ => rfl
  have c_term : Cal P w K mg base 11 "term" ["rule", "number"] (spF K S_term) := ⟨⟨f_term, fd_term, ok_term F_term c_sure_rule c_terms_in c_sure_within g_MOST_TERM, b_term, k_term, F_term.kp, M_term⟩⟩
  have b_companion : Binds K fd_companion ["rule", "number"] [] := F_companion.binds (ps := ["rule", "number"]) fun _ _ _ _ _ _ us hl => match us, hl with | [_, _], _ => rfl
  have k_companion : KwB fd_companion ["rule", "number"] := kwb_of (ps := ["rule", "number"]) F_companion fun _ _ _ _ _ _ us hl => match us, hl with | [_, _], _ => rfl
  have c_companion : Cal P w K mg base 11 "companion" ["rule", "number"] (spF K S_companion) := ⟨⟨f_companion, fd_companion, ok_companion F_companion c_sure_rule c_terms_in c_sure_within g_MOST_TERM, b_companion, k_companion, F_companion.kp, M_companion⟩⟩
  have b_digits_of : Binds K fd_digits_of ["number"] [] := F_digits_of.binds (ps := ["number"]) fun _ _ _ _ _ _ us hl => match us, hl with | [_], _ => rfl
  have k_digits_of : KwB fd_digits_of ["number"] := kwb_of (ps := ["number"]) F_digits_of fun _ _ _ _ _ _ us hl => match us, hl with | [_], _ => rfl
  have c_digits_of : Cal P w K mg base 1 "digits_of" ["number"] (spF K S_digits_of) := ⟨⟨f_digits_of, fd_digits_of, ok_digits_of F_digits_of , b_digits_of, k_digits_of, F_digits_of.kp, M_digits_of⟩⟩
  have b_pair_mod : Binds K fd_pair_mod ["rule", "number", "modulus"] [] := F_pair_mod.binds (ps := ["rule", "number", "modulus"]) fun _ _ _ _ _ _ us hl => match us, hl with | [_, _, _], _ => rfl
  have k_pair_mod : KwB fd_pair_mod ["rule", "number", "modulus"] := kwb_of (ps := ["rule", "number", "modulus"]) F_pair_mod fun _ _ _ _ _ _ us hl => match us, hl with | [_, _, _], _ => rfl
  have c_pair_mod : Cal P w K mg base 2 "pair_mod" ["rule", "number", "modulus"] (spF K S_pair_mod) := ⟨⟨f_pair_mod, fd_pair_mod, ok_pair_mod F_pair_mod c_digits_of, b_pair_mod, k_pair_mod, F_pair_mod.kp, M_pair_mod⟩⟩
  have b_v_mod : Binds K fd_v_mod ["rule", "number", "modulus"] [] := F_v_mod.binds (ps := ["rule", "number", "modulus"]) fun _ _ _ _ _ _ us hl => match us, hl with | [_, _, _], _ => rfl
  have k_v_mod : KwB fd_v_mod ["rule", "number", "modulus"] := kwb_of (ps := ["rule", "number", "modulus"]) F_v_mod fun _ _ _ _ _ _ us hl => match us, hl with | [_, _, _], _ => rfl
  have c_v_mod : Cal P w K mg base 3 "v_mod" ["rule", "number", "modulus"] (spF K S_v_mod) := ⟨⟨f_v_mod, fd_v_mod, ok_v_mod F_v_mod c_pair_mod, b_v_mod, k_v_mod, F_v_mod.kp, M_v_mod⟩⟩
  have b_sure_far : Binds K fd_sure_far ["number", "modulus"] [] := F_sure_far.binds (ps := ["number", "modulus"]) fun _ _ _ _ _ _ us hl => match us, hl with | [_, _], _ => rfl
  have k_sure_far : KwB fd_sure_far ["number", "modulus"] := kwb_of (ps := ["number", "modulus"]) F_sure_far fun _ _ _ _ _ _ us hl => match us, hl with | [_, _], _ => rfl
  have c_sure_far : Cal P w K mg base 4 "sure_far" ["number", "modulus"] (spF K S_sure_far) := ⟨⟨f_sure_far, fd_sure_far, ok_sure_far F_sure_far c_sure_within g_MOST_FAR g_MOST_MODULUS_far, b_sure_far, k_sure_far, F_sure_far.kp, M_sure_far⟩⟩
  have b_term_rest : Binds K fd_term_rest ["rule", "number", "modulus"] [] := F_term_rest.binds (ps := ["rule", "number", "modulus"]) fun _ _ _ _ _ _ us hl => match us, hl with | [_, _, _], _ => rfl
  have k_term_rest : KwB fd_term_rest ["rule", "number", "modulus"] := kwb_of (ps := ["rule", "number", "modulus"]) F_term_rest fun _ _ _ _ _ _ us hl => match us, hl with | [_, _, _], _ => rfl
  have c_term_rest : Cal P w K mg base 11 "term_rest" ["rule", "number", "modulus"] (spF K S_term_rest) := ⟨⟨f_term_rest, fd_term_rest, ok_term_rest F_term_rest c_sure_rule c_sure_far c_pair_mod, b_term_rest, k_term_rest, F_term_rest.kp, M_term_rest⟩⟩
  have b_companion_rest : Binds K fd_companion_rest ["rule", "number", "modulus"] [] := F_companion_rest.binds (ps := ["rule", "number", "modulus"]) fun _ _ _ _ _ _ us hl => match us, hl with | [_, _, _], _ => rfl
  have k_companion_rest : KwB fd_companion_rest ["rule", "number", "modulus"] := kwb_of (ps := ["rule", "number", "modulus"]) F_companion_rest fun _ _ _ _ _ _ us hl => match us, hl with | [_, _, _], _ => rfl
  have c_companion_rest : Cal P w K mg base 11 "companion_rest" ["rule", "number", "modulus"] (spF K S_companion_rest) := ⟨⟨f_companion_rest, fd_companion_rest, ok_companion_rest F_companion_rest c_sure_rule c_sure_far c_v_mod, b_companion_rest, k_companion_rest, F_companion_rest.kp, M_companion_rest⟩⟩
  have b_two_terms : Binds K fd_two_terms ["rule", "kinds", "one", "other"] [] := F_two_terms.binds (ps := ["rule", "kinds", "one", "other"]) fun _ _ _ _ _ _ us hl => match us, hl with | [_, _, _, _], _ => rfl
  have k_two_terms : KwB fd_two_terms ["rule", "kinds", "one", "other"] := kwb_of (ps := ["rule", "kinds", "one", "other"]) F_two_terms fun _ _ _ _ _ _ us hl => match us, hl with | [_, _, _, _], _ => rfl
  have c_two_terms : Cal P w K mg base 11 "two_terms" ["rule", "kinds", "one", "other"] (spF K S_two_terms) := ⟨⟨f_two_terms, fd_two_terms, ok_two_terms F_two_terms c_sure_rule c_sure_within c_terms_in g_MOST_TERM, b_two_terms, k_two_terms, F_two_terms.kp, M_two_terms⟩⟩
  have b_common_terms : Binds K fd_common_terms ["rule", "one", "other"] [] := F_common_terms.binds (ps := ["rule", "one", "other"]) fun _ _ _ _ _ _ us hl => match us, hl with | [_, _, _], _ => rfl
  have k_common_terms : KwB fd_common_terms ["rule", "one", "other"] := kwb_of (ps := ["rule", "one", "other"]) F_common_terms fun _ _ _ _ _ _ us hl => match us, hl with | [_, _, _], _ => rfl
  have c_common_terms : Cal P w K mg base 12 "common_terms" ["rule", "one", "other"] (spF K S_common_terms) := ⟨⟨f_common_terms, fd_common_terms, ok_common_terms F_common_terms c_two_terms c_common, b_common_terms, k_common_terms, F_common_terms.kp, M_common_terms⟩⟩
  have b_quotient : Binds K fd_quotient ["rule", "number", "often"] [] := F_quotient.binds (ps := ["rule", "number", "often"]) fun _ _ _ _ _ _ us hl => match us, hl with | [_, _, _], _ => rfl
  have k_quotient : KwB fd_quotient ["rule", "number", "often"] := kwb_of (ps := ["rule", "number", "often"]) F_quotient fun _ _ _ _ _ _ us hl => match us, hl with | [_, _, _], _ => rfl
  have c_quotient : Cal P w K mg base 11 "quotient" ["rule", "number", "often"] (spF K S_quotient) := ⟨⟨f_quotient, fd_quotient, ok_quotient F_quotient c_sure_rule c_sure_within c_terms_in z_max g_MOST_TERM, b_quotient, k_quotient, F_quotient.kp, M_quotient⟩⟩
  have b_bound_in : Binds K fd_bound_in ["rule", "prime"] [] := F_bound_in.binds (ps := ["rule", "prime"]) fun _ _ _ _ _ _ us hl => match us, hl with | [_, _], _ => rfl
  have k_bound_in : KwB fd_bound_in ["rule", "prime"] := kwb_of (ps := ["rule", "prime"]) F_bound_in fun _ _ _ _ _ _ us hl => match us, hl with | [_, _], _ => rfl
  have c_bound_in : Cal P w K mg base 2 "bound_in" ["rule", "prime"] (spF K S_bound_in) := ⟨⟨f_bound_in, fd_bound_in, ok_bound_in F_bound_in c_jacobi_in c_big_d, b_bound_in, k_bound_in, F_bound_in.kp, M_bound_in⟩⟩
  have b_least_part : Binds K fd_least_part ["rule", "modulus", "bound"] [] := F_least_part.binds (ps := ["rule", "modulus", "bound"]) fun _ _ _ _ _ _ us hl => match us, hl with | [_, _, _], _ => rfl
  have k_least_part : KwB fd_least_part ["rule", "modulus", "bound"] := kwb_of (ps := ["rule", "modulus", "bound"]) F_least_part fun _ _ _ _ _ _ us hl => match us, hl with | [_, _, _], _ => rfl
  have c_least_part : Cal P w K mg base 3 "least_part" ["rule", "modulus", "bound"] (spF K S_least_part) := ⟨⟨f_least_part, fd_least_part, ok_least_part F_least_part c_primes_of c_pair_mod, b_least_part, k_least_part, F_least_part.kp, M_least_part⟩⟩
  have b_prime_place_in : Binds K fd_prime_place_in ["rule", "prime"] [] := F_prime_place_in.binds (ps := ["rule", "prime"]) fun _ _ _ _ _ _ us hl => match us, hl with | [_, _], _ => rfl
  have k_prime_place_in : KwB fd_prime_place_in ["rule", "prime"] := kwb_of (ps := ["rule", "prime"]) F_prime_place_in fun _ _ _ _ _ _ us hl => match us, hl with | [_, _], _ => rfl
  have c_prime_place_in : Cal P w K mg base 4 "prime_place_in" ["rule", "prime"] (spF K S_prime_place_in) := ⟨⟨f_prime_place_in, fd_prime_place_in, ok_prime_place_in F_prime_place_in c_least_part c_bound_in, b_prime_place_in, k_prime_place_in, F_prime_place_in.kp, M_prime_place_in⟩⟩
  have b_ground_in : Binds K fd_ground_in ["rule", "prime"] [] := F_ground_in.binds (ps := ["rule", "prime"]) fun _ _ _ _ _ _ us hl => match us, hl with | [_, _], _ => rfl
  have k_ground_in : KwB fd_ground_in ["rule", "prime"] := kwb_of (ps := ["rule", "prime"]) F_ground_in fun _ _ _ _ _ _ us hl => match us, hl with | [_, _], _ => rfl
  have c_ground_in : Cal P w K mg base 5 "ground_in" ["rule", "prime"] (spF K S_ground_in) := ⟨⟨f_ground_in, fd_ground_in, ok_ground_in F_ground_in c_prime_place_in c_least_part, b_ground_in, k_ground_in, F_ground_in.kp, M_ground_in⟩⟩
  have b_excess_in : Binds K fd_excess_in ["rule", "prime"] [] := F_excess_in.binds (ps := ["rule", "prime"]) fun _ _ _ _ _ _ us hl => match us, hl with | [_, _], _ => rfl
  have k_excess_in : KwB fd_excess_in ["rule", "prime"] := kwb_of (ps := ["rule", "prime"]) F_excess_in fun _ _ _ _ _ _ us hl => match us, hl with | [_, _], _ => rfl
  have c_excess_in : Cal P w K mg base 6 "excess_in" ["rule", "prime"] (spF K S_excess_in) := ⟨⟨f_excess_in, fd_excess_in, ok_excess_in F_excess_in c_zero_in c_ground_in c_pair_mod, b_excess_in, k_excess_in, F_excess_in.kp, M_excess_in⟩⟩
  have b_power_place_in : Binds K fd_power_place_in ["rule", "prime", "often"] [] := F_power_place_in.binds (ps := ["rule", "prime", "often"]) fun _ _ _ _ _ _ us hl => match us, hl with | [_, _, _], _ => rfl
  have k_power_place_in : KwB fd_power_place_in ["rule", "prime", "often"] := kwb_of (ps := ["rule", "prime", "often"]) F_power_place_in fun _ _ _ _ _ _ us hl => match us, hl with | [_, _, _], _ => rfl
  have c_power_place_in : Cal P w K mg base 7 "power_place_in" ["rule", "prime", "often"] (spF K S_power_place_in) := ⟨⟨f_power_place_in, fd_power_place_in, ok_power_place_in F_power_place_in c_prime_place_in c_excess_in c_ground_in z_range, b_power_place_in, k_power_place_in, F_power_place_in.kp, M_power_place_in⟩⟩
  have b_first_place_in : Binds K fd_first_place_in ["rule", "modulus"] [] := F_first_place_in.binds (ps := ["rule", "modulus"]) fun _ _ _ _ _ _ us hl => match us, hl with | [_, _], _ => rfl
  have k_first_place_in : KwB fd_first_place_in ["rule", "modulus"] := kwb_of (ps := ["rule", "modulus"]) F_first_place_in fun _ _ _ _ _ _ us hl => match us, hl with | [_, _], _ => rfl
  have c_first_place_in : Cal P w K mg base 8 "first_place_in" ["rule", "modulus"] (spF K S_first_place_in) := ⟨⟨f_first_place_in, fd_first_place_in, ok_first_place_in F_first_place_in c_primes_of c_lcm c_power_place_in, b_first_place_in, k_first_place_in, F_first_place_in.kp, M_first_place_in⟩⟩
  have b_sure_prime_to : Binds K fd_sure_prime_to ["rule", "modulus", "most"] [] := F_sure_prime_to.binds (ps := ["rule", "modulus", "most"]) fun _ _ _ _ _ _ us hl => match us, hl with | [_, _, _], _ => rfl
  have k_sure_prime_to : KwB fd_sure_prime_to ["rule", "modulus", "most"] := kwb_of (ps := ["rule", "modulus", "most"]) F_sure_prime_to fun _ _ _ _ _ _ us hl => match us, hl with | [_, _, _], _ => rfl
  have c_sure_prime_to : Cal P w K mg base 11 "sure_prime_to" ["rule", "modulus", "most"] (spF K S_sure_prime_to) := ⟨⟨f_sure_prime_to, fd_sure_prime_to, ok_sure_prime_to F_sure_prime_to c_sure_rule c_sure_within c_common, b_sure_prime_to, k_sure_prime_to, F_sure_prime_to.kp, M_sure_prime_to⟩⟩
  have b_first_place : Binds K fd_first_place ["rule", "modulus"] [] := F_first_place.binds (ps := ["rule", "modulus"]) fun _ _ _ _ _ _ us hl => match us, hl with | [_, _], _ => rfl
  have k_first_place : KwB fd_first_place ["rule", "modulus"] := kwb_of (ps := ["rule", "modulus"]) F_first_place fun _ _ _ _ _ _ us hl => match us, hl with | [_, _], _ => rfl
  have c_first_place : Cal P w K mg base 12 "first_place" ["rule", "modulus"] (spF K S_first_place) := ⟨⟨f_first_place, fd_first_place, ok_first_place F_first_place c_sure_prime_to c_first_place_in g_MOST_FOUND, b_first_place, k_first_place, F_first_place.kp, M_first_place⟩⟩
  have b_sure_coprime : Binds K fd_sure_coprime ["rule", "modulus"] [] := F_sure_coprime.binds (ps := ["rule", "modulus"]) fun _ _ _ _ _ _ us hl => match us, hl with | [_, _], _ => rfl
  have k_sure_coprime : KwB fd_sure_coprime ["rule", "modulus"] := kwb_of (ps := ["rule", "modulus"]) F_sure_coprime fun _ _ _ _ _ _ us hl => match us, hl with | [_, _], _ => rfl
  have c_sure_coprime : Cal P w K mg base 2 "sure_coprime" ["rule", "modulus"] (spF K S_sure_coprime) := ⟨⟨f_sure_coprime, fd_sure_coprime, ok_sure_coprime F_sure_coprime c_common, b_sure_coprime, k_sure_coprime, F_sure_coprime.kp, M_sure_coprime⟩⟩
  have b_multiplier_in : Binds K fd_multiplier_in ["rule", "modulus"] [] := F_multiplier_in.binds (ps := ["rule", "modulus"]) fun _ _ _ _ _ _ us hl => match us, hl with | [_, _], _ => rfl
  have k_multiplier_in : KwB fd_multiplier_in ["rule", "modulus"] := kwb_of (ps := ["rule", "modulus"]) F_multiplier_in fun _ _ _ _ _ _ us hl => match us, hl with | [_, _], _ => rfl
  have c_multiplier_in : Cal P w K mg base 9 "multiplier_in" ["rule", "modulus"] (spF K S_multiplier_in) := ⟨⟨f_multiplier_in, fd_multiplier_in, ok_multiplier_in F_multiplier_in c_pair_mod c_first_place_in, b_multiplier_in, k_multiplier_in, F_multiplier_in.kp, M_multiplier_in⟩⟩
  have b_round_in : Binds K fd_round_in ["rule", "modulus"] [] := F_round_in.binds (ps := ["rule", "modulus"]) fun _ _ _ _ _ _ us hl => match us, hl with | [_, _], _ => rfl
  have k_round_in : KwB fd_round_in ["rule", "modulus"] := kwb_of (ps := ["rule", "modulus"]) F_round_in fun _ _ _ _ _ _ us hl => match us, hl with | [_, _], _ => rfl
  have c_round_in : Cal P w K mg base 10 "round_in" ["rule", "modulus"] (spF K S_round_in) := ⟨⟨f_round_in, fd_round_in, ok_round_in F_round_in c_first_place_in c_order_in c_multiplier_in, b_round_in, k_round_in, F_round_in.kp, M_round_in⟩⟩
  have b_round_of : Binds K fd_round_of ["rule", "modulus"] [] := F_round_of.binds (ps := ["rule", "modulus"]) fun _ _ _ _ _ _ us hl => match us, hl with | [_, _], _ => rfl
  have k_round_of : KwB fd_round_of ["rule", "modulus"] := kwb_of (ps := ["rule", "modulus"]) F_round_of fun _ _ _ _ _ _ us hl => match us, hl with | [_, _], _ => rfl
  have c_round_of : Cal P w K mg base 11 "round_of" ["rule", "modulus"] (spF K S_round_of) := ⟨⟨f_round_of, fd_round_of, ok_round_of F_round_of c_sure_rule c_round_in c_sure_coprime c_sure_within g_MOST_MODULUS_rounds, b_round_of, k_round_of, F_round_of.kp, M_round_of⟩⟩
  have b__law_box : Binds K fd__law_box ["script", "k"] [] := F__law_box.binds (ps := ["script", "k"]) fun _ _ _ _ _ _ us hl => match us, hl with | [_, _], _ => rfl
  have k__law_box : KwB fd__law_box ["script", "k"] := kwb_of (ps := ["script", "k"]) F__law_box fun _ _ _ _ _ _ us hl => match us, hl with | [_, _], _ => rfl
  have c__law_box : Cal P w K mg base 1 "_law_box" ["script", "k"] (spN K S__law_box) := ⟨⟨f__law_box, fd__law_box, ok__law_box F__law_box z_len z_int z_abs, b__law_box, k__law_box, F__law_box.kp, M__law_box⟩⟩
  have b__law_take : Binds K fd__law_take ["tin", "below_so"] [] := F__law_take.binds (ps := ["tin", "below_so"]) fun _ _ _ _ _ _ us hl => match us, hl with | [_, _], _ => rfl
  have k__law_take : KwB fd__law_take ["tin", "below_so"] := kwb_of (ps := ["tin", "below_so"]) F__law_take fun _ _ _ _ _ _ us hl => match us, hl with | [_, _], _ => rfl
  have c__law_take : Cal P w K mg base 1 "_law_take" ["tin", "below_so"] (spM K S__law_take) := ⟨⟨f__law_take, fd__law_take, ok__law_take F__law_take z_int, b__law_take, k__law_take, F__law_take.kp, M__law_take⟩⟩
  have b__law_cells : Binds K fd__law_cells ["script", "most_so"] [] := F__law_cells.binds (ps := ["script", "most_so"]) fun _ _ _ _ _ _ us hl => match us, hl with | [_, _], _ => rfl
  have k__law_cells : KwB fd__law_cells ["script", "most_so"] := kwb_of (ps := ["script", "most_so"]) F__law_cells fun _ _ _ _ _ _ us hl => match us, hl with | [_, _], _ => rfl
  have c__law_cells : Cal P w K mg base 1 "_law_cells" ["script", "most_so"] (spF K S__law_cells) := ⟨⟨f__law_cells, fd__law_cells, ok__law_cells F__law_cells z_list z_enumerate z_int, b__law_cells, k__law_cells, F__law_cells.kp, M__law_cells⟩⟩
  have b__law_of : Binds K fd__law_of ["tin", "goods_so"] [] := F__law_of.binds (ps := ["tin", "goods_so"]) fun _ _ _ _ _ _ us hl => match us, hl with | [_, _], _ => rfl
  have k__law_of : KwB fd__law_of ["tin", "goods_so"] := kwb_of (ps := ["tin", "goods_so"]) F__law_of fun _ _ _ _ _ _ us hl => match us, hl with | [_, _], _ => rfl
  have c__law_of : Cal P w K mg base 2 "_law_of" ["tin", "goods_so"] (spM K S__law_of) := ⟨⟨f__law_of, fd__law_of, ok__law_of F__law_of c__law_take z_len, b__law_of, k__law_of, F__law_of.kp, M__law_of⟩⟩
  have b__law_same : Binds K fd__law_same ["got", "due"] [] := F__law_same.binds (ps := ["got", "due"]) fun _ _ _ _ _ _ us hl => match us, hl with | [_, _], _ => rfl
  have k__law_same : KwB fd__law_same ["got", "due"] := kwb_of (ps := ["got", "due"]) F__law_same fun _ _ _ _ _ _ us hl => match us, hl with | [_, _], _ => rfl
  have c__law_same : Cal P w K mg base 9 "_law_same" ["got", "due"] (spF K S__law_same) := ⟨⟨f__law_same, fd__law_same, okr__law_same F__law_same z_isinstance z_list z_tuple z_len z_all z_zip z_bool z_str z_int b__law_same k__law_same M__law_same 8, b__law_same, k__law_same, F__law_same.kp, M__law_same⟩⟩
  have b__law_common : Binds K fd__law_common ["one_so", "two"] [] := F__law_common.binds (ps := ["one_so", "two"]) fun _ _ _ _ _ _ us hl => match us, hl with | [_, _], _ => rfl
  have k__law_common : KwB fd__law_common ["one_so", "two"] := kwb_of (ps := ["one_so", "two"]) F__law_common fun _ _ _ _ _ _ us hl => match us, hl with | [_, _], _ => rfl
  have c__law_common : Cal P w K mg base 1 "_law_common" ["one_so", "two"] (spF K S__law_common) := ⟨⟨f__law_common, fd__law_common, ok__law_common F__law_common z_abs, b__law_common, k__law_common, F__law_common.kp, M__law_common⟩⟩
  have b__law_rule : Binds K fd__law_rule ["tin", "wide_so"] [] := F__law_rule.binds (ps := ["tin", "wide_so"]) fun _ _ _ _ _ _ us hl => match us, hl with | [_, _], _ => rfl
  have k__law_rule : KwB fd__law_rule ["tin", "wide_so"] := kwb_of (ps := ["tin", "wide_so"]) F__law_rule fun _ _ _ _ _ _ us hl => match us, hl with | [_, _], _ => rfl
  have c__law_rule : Cal P w K mg base 2 "_law_rule" ["tin", "wide_so"] (spM K S__law_rule) := ⟨⟨f__law_rule, fd__law_rule, ok__law_rule F__law_rule c__law_take, b__law_rule, k__law_rule, F__law_rule.kp, M__law_rule⟩⟩
  have b__law_us : Binds K fd__law_us ["rule_so", "many_so"] [] := F__law_us.binds (ps := ["rule_so", "many_so"]) fun _ _ _ _ _ _ us hl => match us, hl with | [_, _], _ => rfl
  have k__law_us : KwB fd__law_us ["rule_so", "many_so"] := kwb_of (ps := ["rule_so", "many_so"]) F__law_us fun _ _ _ _ _ _ us hl => match us, hl with | [_, _], _ => rfl
  have c__law_us : Cal P w K mg base 1 "_law_us" ["rule_so", "many_so"] (spF K S__law_us) := ⟨⟨f__law_us, fd__law_us, ok__law_us F__law_us z_range, b__law_us, k__law_us, F__law_us.kp, M__law_us⟩⟩
  have b__law_vs : Binds K fd__law_vs ["rule_so", "many_so"] [] := F__law_vs.binds (ps := ["rule_so", "many_so"]) fun _ _ _ _ _ _ us hl => match us, hl with | [_, _], _ => rfl
  have k__law_vs : KwB fd__law_vs ["rule_so", "many_so"] := kwb_of (ps := ["rule_so", "many_so"]) F__law_vs fun _ _ _ _ _ _ us hl => match us, hl with | [_, _], _ => rfl
  have c__law_vs : Cal P w K mg base 1 "_law_vs" ["rule_so", "many_so"] (spF K S__law_vs) := ⟨⟨f__law_vs, fd__law_vs, ok__law_vs F__law_vs z_range, b__law_vs, k__law_vs, F__law_vs.kp, M__law_vs⟩⟩
  have b__law_first : Binds K fd__law_first ["rule_so", "under_so", "most_so"] [] := F__law_first.binds (ps := ["rule_so", "under_so", "most_so"]) fun _ _ _ _ _ _ us hl => match us, hl with | [_, _, _], _ => rfl
  have k__law_first : KwB fd__law_first ["rule_so", "under_so", "most_so"] := kwb_of (ps := ["rule_so", "under_so", "most_so"]) F__law_first fun _ _ _ _ _ _ us hl => match us, hl with | [_, _, _], _ => rfl
  have c__law_first : Cal P w K mg base 1 "_law_first" ["rule_so", "under_so", "most_so"] (spF K S__law_first) := ⟨⟨f__law_first, fd__law_first, ok__law_first F__law_first z_range, b__law_first, k__law_first, F__law_first.kp, M__law_first⟩⟩
  exact ok_law F_law c__law_box c__law_cells c__law_rule c__law_take c__law_us c__law_vs c_is_rule c_discriminant c_term c__law_same c_companion c_quotient c_common_terms c_term_rest c_companion_rest c__law_common c__law_of c__law_first c_first_place c_round_of z_range z_abs
end TQ
open PySem PySem.W PyProof.Rows
set_option maxRecDepth 100000 in
set_option maxHeartbeats 0 in
theorem PySem.Challenge.cw_termsdivide_k66_across_each_so_many_th_t_holds : PySem.Challenge.rw_termsdivide_k66_across_each_so_many_th_t.Holds := by
  w_on; o_law; k_head; (case hw => w_witness2)
  k_fill
  refine TQ.walkX (l := PySem.Challenge.rw_termsdivide_k66_across_each_so_many_th_t) (n := 63) (k := 13) (x := "script") (S := TQ.S_law_k66) rfl rfl (hY := fun w h Y => PySem.W.kIn_of Y) (hS := fun xs => ⟨⟨xs, rfl⟩, rfl⟩) (F := ?F)
  case F =>
    intro w mg fa h KX G X hmg
    refine TQ.all_mk hmg ?h_is_number ?h_is_within ?h_is_long ?h_are_numbers ?h_tupled ?h_sure_within ?h_common ?h_lcm ?h_primes_of ?h_power_mod ?h_step_order ?h_order_in ?h_jacobi_in ?h_is_rule_in ?h_sure_rule ?h_big_d ?h_terms_in ?h_zero_in ?h_is_rule ?h_discriminant ?h_term ?h_companion ?h_digits_of ?h_pair_mod ?h_v_mod ?h_sure_far ?h_term_rest ?h_companion_rest ?h_two_terms ?h_common_terms ?h_quotient ?h_bound_in ?h_least_part ?h_prime_place_in ?h_ground_in ?h_excess_in ?h_power_place_in ?h_first_place_in ?h_sure_prime_to ?h_first_place ?h_sure_coprime ?h_multiplier_in ?h_round_in ?h_round_of ?h__law_box ?h__law_take ?h__law_cells ?h__law_of ?h__law_same ?h__law_common ?h__law_rule ?h__law_us ?h__law_vs ?h__law_first ?h_law ?z_isinstance ?z_int ?z_bool ?z_tuple ?z_len ?z_all ?z_list ?z_abs ?z_range ?z_enumerate ?z_max ?z_zip ?z_str ?g_MOST_RULE ?g_MOST_TERM ?g_MOST_FAR ?g_MOST_MODULUS_far ?g_MOST_FOUND ?g_MOST_MODULUS_rounds
    (case h_is_number => refine' TQ.mk_one (st := TQ.top 4) KX G ?a ?l ?c ?k; (case a => k_is); (case l => k_is); (case c => k_is); (case k => k_is))
    (case h_is_within => refine' TQ.mk_one (st := TQ.top 5) KX G ?a ?l ?c ?k; (case a => k_is); (case l => k_is); (case c => k_is); (case k => k_is))
    (case h_is_long => refine' TQ.mk_one (st := TQ.top 6) KX G ?a ?l ?c ?k; (case a => k_is); (case l => k_is); (case c => k_is); (case k => k_is))
    (case h_are_numbers => refine' TQ.mk_one (st := TQ.top 7) KX G ?a ?l ?c ?k; (case a => k_is); (case l => k_is); (case c => k_is); (case k => k_is))
    (case h_tupled => refine' TQ.mk_one (st := TQ.top 8) KX G ?a ?l ?c ?k; (case a => k_is); (case l => k_is); (case c => k_is); (case k => k_is))
    (case h_sure_within => refine' TQ.mk_one (st := TQ.top 9) KX G ?a ?l ?c ?k; (case a => k_is); (case l => k_is); (case c => k_is); (case k => k_is))
    (case h_common => refine' TQ.mk_one (st := TQ.top 10) KX G ?a ?l ?c ?k; (case a => k_is); (case l => k_is); (case c => k_is); (case k => k_is))
    (case h_lcm => refine' TQ.mk_one (st := TQ.top 11) KX G ?a ?l ?c ?k; (case a => k_is); (case l => k_is); (case c => k_is); (case k => k_is))
    (case h_primes_of => refine' TQ.mk_one (st := TQ.top 12) KX G ?a ?l ?c ?k; (case a => k_is); (case l => k_is); (case c => k_is); (case k => k_is))
    (case h_power_mod => refine' TQ.mk_one (st := TQ.top 13) KX G ?a ?l ?c ?k; (case a => k_is); (case l => k_is); (case c => k_is); (case k => k_is))
    (case h_step_order => refine' TQ.mk_one (st := TQ.top 15) KX G ?a ?l ?c ?k; (case a => k_is); (case l => k_is); (case c => k_is); (case k => k_is))
    (case h_order_in => refine' TQ.mk_one (st := TQ.top 14) KX G ?a ?l ?c ?k; (case a => k_is); (case l => k_is); (case c => k_is); (case k => k_is))
    (case h_jacobi_in => refine' TQ.mk_one (st := TQ.top 16) KX G ?a ?l ?c ?k; (case a => k_is); (case l => k_is); (case c => k_is); (case k => k_is))
    (case h_is_rule_in => refine' TQ.mk_one (st := TQ.top 20) KX G ?a ?l ?c ?k; (case a => k_is); (case l => k_is); (case c => k_is); (case k => k_is))
    (case h_sure_rule => refine' TQ.mk_one (st := TQ.top 21) KX G ?a ?l ?c ?k; (case a => k_is); (case l => k_is); (case c => k_is); (case k => k_is))
    (case h_big_d => refine' TQ.mk_one (st := TQ.top 22) KX G ?a ?l ?c ?k; (case a => k_is); (case l => k_is); (case c => k_is); (case k => k_is))
    (case h_terms_in => refine' TQ.mk_one (st := TQ.top 23) KX G ?a ?l ?c ?k; (case a => k_is); (case l => k_is); (case c => k_is); (case k => k_is))
    (case h_zero_in => refine' TQ.mk_one (st := TQ.top 24) KX G ?a ?l ?c ?k; (case a => k_is); (case l => k_is); (case c => k_is); (case k => k_is))
    (case h_is_rule => refine' TQ.mk_one (st := TQ.top 25) KX G ?a ?l ?c ?k; (case a => k_is); (case l => k_is); (case c => k_is); (case k => k_is))
    (case h_discriminant => refine' TQ.mk_one (st := TQ.top 26) KX G ?a ?l ?c ?k; (case a => k_is); (case l => k_is); (case c => k_is); (case k => k_is))
    (case h_term => refine' TQ.mk_one (st := TQ.top 27) KX G ?a ?l ?c ?k; (case a => k_is); (case l => k_is); (case c => k_is); (case k => k_is))
    (case h_companion => refine' TQ.mk_one (st := TQ.top 28) KX G ?a ?l ?c ?k; (case a => k_is); (case l => k_is); (case c => k_is); (case k => k_is))
    (case h_digits_of => refine' TQ.mk_one (st := TQ.top 32) KX G ?a ?l ?c ?k; (case a => k_is); (case l => k_is); (case c => k_is); (case k => k_is))
    (case h_pair_mod => refine' TQ.mk_one (st := TQ.top 33) KX G ?a ?l ?c ?k; (case a => k_is); (case l => k_is); (case c => k_is); (case k => k_is))
    (case h_v_mod => refine' TQ.mk_one (st := TQ.top 34) KX G ?a ?l ?c ?k; (case a => k_is); (case l => k_is); (case c => k_is); (case k => k_is))
    (case h_sure_far => refine' TQ.mk_one (st := TQ.top 35) KX G ?a ?l ?c ?k; (case a => k_is); (case l => k_is); (case c => k_is); (case k => k_is))
    (case h_term_rest => refine' TQ.mk_one (st := TQ.top 36) KX G ?a ?l ?c ?k; (case a => k_is); (case l => k_is); (case c => k_is); (case k => k_is))
    (case h_companion_rest => refine' TQ.mk_one (st := TQ.top 37) KX G ?a ?l ?c ?k; (case a => k_is); (case l => k_is); (case c => k_is); (case k => k_is))
    (case h_two_terms => refine' TQ.mk_one (st := TQ.top 39) KX G ?a ?l ?c ?k; (case a => k_is); (case l => k_is); (case c => k_is); (case k => k_is))
    (case h_common_terms => refine' TQ.mk_one (st := TQ.top 40) KX G ?a ?l ?c ?k; (case a => k_is); (case l => k_is); (case c => k_is); (case k => k_is))
    (case h_quotient => refine' TQ.mk_one (st := TQ.top 41) KX G ?a ?l ?c ?k; (case a => k_is); (case l => k_is); (case c => k_is); (case k => k_is))
    (case h_bound_in => refine' TQ.mk_one (st := TQ.top 44) KX G ?a ?l ?c ?k; (case a => k_is); (case l => k_is); (case c => k_is); (case k => k_is))
    (case h_least_part => refine' TQ.mk_one (st := TQ.top 45) KX G ?a ?l ?c ?k; (case a => k_is); (case l => k_is); (case c => k_is); (case k => k_is))
    (case h_prime_place_in => refine' TQ.mk_one (st := TQ.top 46) KX G ?a ?l ?c ?k; (case a => k_is); (case l => k_is); (case c => k_is); (case k => k_is))
    (case h_ground_in => refine' TQ.mk_one (st := TQ.top 47) KX G ?a ?l ?c ?k; (case a => k_is); (case l => k_is); (case c => k_is); (case k => k_is))
    (case h_excess_in => refine' TQ.mk_one (st := TQ.top 48) KX G ?a ?l ?c ?k; (case a => k_is); (case l => k_is); (case c => k_is); (case k => k_is))
    (case h_power_place_in => refine' TQ.mk_one (st := TQ.top 49) KX G ?a ?l ?c ?k; (case a => k_is); (case l => k_is); (case c => k_is); (case k => k_is))
    (case h_first_place_in => refine' TQ.mk_one (st := TQ.top 50) KX G ?a ?l ?c ?k; (case a => k_is); (case l => k_is); (case c => k_is); (case k => k_is))
    (case h_sure_prime_to => refine' TQ.mk_one (st := TQ.top 51) KX G ?a ?l ?c ?k; (case a => k_is); (case l => k_is); (case c => k_is); (case k => k_is))
    (case h_first_place => refine' TQ.mk_one (st := TQ.top 52) KX G ?a ?l ?c ?k; (case a => k_is); (case l => k_is); (case c => k_is); (case k => k_is))
    (case h_sure_coprime => refine' TQ.mk_one (st := TQ.top 55) KX G ?a ?l ?c ?k; (case a => k_is); (case l => k_is); (case c => k_is); (case k => k_is))
    (case h_multiplier_in => refine' TQ.mk_one (st := TQ.top 56) KX G ?a ?l ?c ?k; (case a => k_is); (case l => k_is); (case c => k_is); (case k => k_is))
    (case h_round_in => refine' TQ.mk_one (st := TQ.top 57) KX G ?a ?l ?c ?k; (case a => k_is); (case l => k_is); (case c => k_is); (case k => k_is))
    (case h_round_of => refine' TQ.mk_one (st := TQ.top 58) KX G ?a ?l ?c ?k; (case a => k_is); (case l => k_is); (case c => k_is); (case k => k_is))
    (case h__law_box => refine' TQ.mk_one (st := TQ.top 60) KX G ?a ?l ?c ?k; (case a => k_is); (case l => k_is); (case c => k_is); (case k => k_is))
    (case h__law_take => refine' TQ.mk_one (st := TQ.top 61) KX G ?a ?l ?c ?k; (case a => k_is); (case l => k_is); (case c => k_is); (case k => k_is))
    (case h__law_cells => refine' TQ.mk_one (st := TQ.top 62) KX G ?a ?l ?c ?k; (case a => k_is); (case l => k_is); (case c => k_is); (case k => k_is))
    (case h__law_of => refine' TQ.mk_one (st := TQ.top 63) KX G ?a ?l ?c ?k; (case a => k_is); (case l => k_is); (case c => k_is); (case k => k_is))
    (case h__law_same => refine' TQ.mk_one (st := TQ.top 64) KX G ?a ?l ?c ?k; (case a => k_is); (case l => k_is); (case c => k_is); (case k => k_is))
    (case h__law_common => refine' TQ.mk_one (st := TQ.top 65) KX G ?a ?l ?c ?k; (case a => k_is); (case l => k_is); (case c => k_is); (case k => k_is))
    (case h__law_rule => refine' TQ.mk_one (st := TQ.top 66) KX G ?a ?l ?c ?k; (case a => k_is); (case l => k_is); (case c => k_is); (case k => k_is))
    (case h__law_us => refine' TQ.mk_one (st := TQ.top 67) KX G ?a ?l ?c ?k; (case a => k_is); (case l => k_is); (case c => k_is); (case k => k_is))
    (case h__law_vs => refine' TQ.mk_one (st := TQ.top 68) KX G ?a ?l ?c ?k; (case a => k_is); (case l => k_is); (case c => k_is); (case k => k_is))
    (case h__law_first => refine' TQ.mk_one (st := TQ.top 69) KX G ?a ?l ?c ?k; (case a => k_is); (case l => k_is); (case c => k_is); (case k => k_is))
    (case h_law => refine' TQ.mk_one (st := TQ.top 70) KX G ?a ?l ?c ?k; (case a => k_is); (case l => k_is); (case c => k_is); (case k => k_is))
    (case z_isinstance => refine PySem.W.mg_none_of KX G ?a; (case a => k_is))
    (case z_int => refine PySem.W.mg_none_of KX G ?a; (case a => k_is))
    (case z_bool => refine PySem.W.mg_none_of KX G ?a; (case a => k_is))
    (case z_tuple => refine PySem.W.mg_none_of KX G ?a; (case a => k_is))
    (case z_len => refine PySem.W.mg_none_of KX G ?a; (case a => k_is))
    (case z_all => refine PySem.W.mg_none_of KX G ?a; (case a => k_is))
    (case z_list => refine PySem.W.mg_none_of KX G ?a; (case a => k_is))
    (case z_abs => refine PySem.W.mg_none_of KX G ?a; (case a => k_is))
    (case z_range => refine PySem.W.mg_none_of KX G ?a; (case a => k_is))
    (case z_enumerate => refine PySem.W.mg_none_of KX G ?a; (case a => k_is))
    (case z_max => refine PySem.W.mg_none_of KX G ?a; (case a => k_is))
    (case z_zip => refine PySem.W.mg_none_of KX G ?a; (case a => k_is))
    (case z_str => refine PySem.W.mg_none_of KX G ?a; (case a => k_is))
    (case g_MOST_RULE => refine' TQ.con_int KX G ?a; (case a => k_is))
    (case g_MOST_TERM => refine' TQ.con_int KX G ?a; (case a => k_is))
    (case g_MOST_FAR => exact TQ.loose_int X.2 (by simp))
    (case g_MOST_MODULUS_far => exact TQ.loose_int X.2 (by simp))
    (case g_MOST_FOUND => exact TQ.loose_int X.2 (by simp))
    (case g_MOST_MODULUS_rounds => exact TQ.loose_int X.2 (by simp))
