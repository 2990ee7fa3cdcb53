import PyProof.Rows.All
import Wide.All
import OpenK.AllK
import Wide.FinOn
import KE.KStateDown
import HandS.ForMost
import HandS.Exc
import HandS.TryOnly
import HandS.ExcOwn
import HandS.ExcInit
import HandS.WordsExc
import HandS.Zip
import HandS.Walk
import HandS.Wide
import HandS.Gcd
import HandS.Flow
import HandS.Text
import HandS.IsInst
import HandS.TupAny
import HandS.Defaults
import HandS.HeadEnd
import HandS.HeadHook1
import HandS.HeadHook2
import KE.IntBitsLaws
import HandS.WideBits
import HandS.ExcIs
import HandS.OwnEq
import HandS.Zip0
import PyProof.Draws
import HandS.FStr
import HandS.Deep
import KE.KCallOwn
import PyProof.StrBlock2
import HandS.HeadNt
import KE.KExcIs
import HandS.Head0
import HandS.Head1
import HandS.Head2
import HandS.Head3
import PySem.Challenge.RW_plumbnet_k04_written_forms_of_fractions
set_option Elab.async false
set_option linter.all false
set_option maxRecDepth 100000
set_option maxHeartbeats 0
namespace DL
open PySem PySem.Spec PyProof.Rows L2
/-! The data level: what never changes is told by value, what changes stands in a small memory. -/

inductive D where
  | non | bl (b : Bool) | int (i : Int) | str (x : Str) | ref (a : Addr) | ty (n : String)
  | rat (q : Rat)
  | tup (xs : List D)
  | lst (xs : List D)
  | scr (xs : List D)
  | obj (C : Addr) (ns : List Str) (xs : List D)

/-- what may change -/
inductive MO where
  | lst (xs : List D)
  | ins (C : Addr) (ns : List Str) (xs : List D)
  | dic (ks : List Str) (xs : List D)
abbrev Mem := Addr → Option MO
def mput (M : Mem) (a : Addr) (o : MO) : Mem := fun b => if b = a then some o else M b
def mdel (M : Mem) (a : Addr) : Mem := fun b => if b = a then none else M b
theorem mput_same {M : Mem} {a o} : mput M a o a = some o := if_pos rfl
theorem mput_ne {M : Mem} {a b o} (h : b ≠ a) : mput M a o b = M b := if_neg h
theorem mdel_same {M : Mem} {a} : mdel M a a = none := if_pos rfl
theorem mdel_ne {M : Mem} {a b} (h : b ≠ a) : mdel M a b = M b := if_neg h
theorem mput_mput {M : Mem} {a o u} : mput (mput M a o) a u = mput M a u := by
  funext b; unfold mput; split <;> rfl
theorem mdel_mput {M : Mem} {a o} (h : M a = none) : mdel (mput M a o) a = M := by
  funext b; unfold mdel mput; split
  · rename_i e; rw [e, h]
  · rfl
theorem mput_self {M : Mem} {a o} (h : M a = some o) : mput M a o = M := by
  funext b; unfold mput; split
  · rename_i e; rw [e, h]
  · rfl

def ratF (q : Rat) : List (Str × V) := [("top", .int q.num), ("bottom", .int (q.den : Int))]

/-- the text's own: the written part, the class of fractions -/
structure Own where
  K : PySem.W.Frag
  CR : Addr
  /-- what is hidden: lists that a comprehension is making -/
  P : Addr → Prop

/-- a tuple, a list that stays as it is -/
def Fre (O : Own) (M : Mem) (a : Addr) : Prop := M a = none ∧ ¬ O.P a
def FT (O : Own) (H : Hp) (M : Mem) (a : Addr) (vs : List V) : Prop := Fre O M a ∧ H a = some (.tup vs)
def FL (O : Own) (H : Hp) (M : Mem) (a : Addr) (vs : List V) : Prop := Fre O M a ∧ H a = some (.lst vs)
/-- a list that may be read alone (the script) -/
def FS (O : Own) (H : Hp) (M : Mem) (a : Addr) (vs : List V) : Prop := (Fre O M a ∧ Rd H a (.lst vs)) ∨ SqL O.K (fun _ => none) a vs
section
variable (O : Own) (H : Hp) (M : Mem)
mutual
def Rep : D → V → Prop
  | .non, v => v = .non
  | .bl b, v => v = .bl b
  | .int i, v => v = .int i
  | .str x, v => v = .str x
  | .ref a, v => v = .ref a
  | .ty n, v => v = .ty n
  | .rat q, v => ∃ a dx, v = .ref a ∧ Fre O M a ∧ H a = some (.ins O.CR dx (ratF q))
  | .tup xs, v => ∃ a vs, v = .ref a ∧ FT O H M a vs ∧ Reps xs vs
  | .lst xs, v => ∃ a vs, v = .ref a ∧ FL O H M a vs ∧ Reps xs vs
  | .scr xs, v => ∃ a vs, v = .ref a ∧ FS O H M a vs ∧ Reps xs vs
  | .obj C ns xs, v => ∃ a dx vs, v = .ref a ∧ Fre O M a ∧ H a = some (.ins C dx (ns.zip vs)) ∧ ns.length = vs.length ∧ Reps xs vs
def Reps : List D → List V → Prop
  | [], vs => vs = []
  | d :: ds, vs => ∃ v r, vs = v :: r ∧ Rep d v ∧ Reps ds r
end
end
/-- what is not in the memory stays, and does not come into it; what is hidden stays as it is -/
structure Fz (O : Own) (H : Hp) (M : Mem) (H' : Hp) (M' : Mem) : Prop where
  st : ∀ a o, Fre O M a → H a = some o → H' a = some o ∧ M' a = none
  hid : ∀ a, O.P a → H' a = H a
theorem Fz.refl {O H M} : Fz O H M H M := ⟨fun _ _ h e => ⟨e, h.1⟩, fun _ _ => rfl⟩
theorem Fz.trans {O H M H1 M1 H2 M2} (a : Fz O H M H1 M1) (b : Fz O H1 M1 H2 M2) : Fz O H M H2 M2 := ⟨fun x o h e =>
  let ⟨e1, h1⟩ := a.st x o h e
  b.st x o ⟨h1, h.2⟩ e1, fun x h => (b.hid x h).trans (a.hid x h)⟩
theorem rd_fz {O H M H' M'} {a : Addr} {u : HO} (z : Fz O H M H' M') (m : Fre O M a) (r : Rd H a u) : Fre O M' a ∧ Rd H' a u := by
  rcases r with r | ⟨o, r⟩
  · exact ⟨⟨(z.st a _ m r).2, m.2⟩, .inl (z.st a _ m r).1⟩
  · exact ⟨⟨(z.st a _ m r).2, m.2⟩, .inr ⟨o, (z.st a _ m r).1⟩⟩
theorem FT.mono {O H M H' M'} {a : Addr} {vs : List V} (z : Fz O H M H' M') (f : FT O H M a vs) : FT O H' M' a vs := ⟨⟨(z.st a _ f.1 f.2).2, f.1.2⟩, (z.st a _ f.1 f.2).1⟩
theorem FL.mono {O H M H' M'} {a : Addr} {vs : List V} (z : Fz O H M H' M') (f : FL O H M a vs) : FL O H' M' a vs := ⟨⟨(z.st a _ f.1 f.2).2, f.1.2⟩, (z.st a _ f.1 f.2).1⟩
theorem FS.mono {O H M H' M'} {a : Addr} {vs : List V} (z : Fz O H M H' M') (f : FS O H M a vs) : FS O H' M' a vs := f.elim (fun f => .inl (rd_fz z f.1 f.2)) .inr
theorem sqL_none {K H} {a : Addr} {vs : List V} (h : SqL K (fun _ => none) a vs) : SqL K H a vs := by
  rcases h with (h | ⟨_, h⟩) | h
  · cases h
  · cases h
  · exact .inr h
theorem FT.sq {O H M} {a : Addr} {vs : List V} (f : FT O H M a vs) : SqT O.K H a vs := .of f.2
theorem FL.sq {O H M} {a : Addr} {vs : List V} (f : FL O H M a vs) : SqL O.K H a vs := .of f.2
theorem FS.sq {O H M} {a : Addr} {vs : List V} (f : FS O H M a vs) : SqL O.K H a vs := f.elim (fun f => .inl f.2) sqL_none
section
variable {O : Own} {H H' : Hp} {M M' : Mem}
mutual
theorem Rep.mono (z : Fz O H M H' M') : ∀ {d : D} {v : V}, Rep O H M d v → Rep O H' M' d v
  | .non, _, h => h
  | .bl _, _, h => h
  | .int _, _, h => h
  | .str _, _, h => h
  | .ref _, _, h => h
  | .ty _, _, h => h
  | .rat q, v, h => by
    obtain ⟨a, dx, e, m, h⟩ := h
    exact ⟨a, dx, e, ⟨(z.st a _ m h).2, m.2⟩, (z.st a _ m h).1⟩
  | .tup xs, v, h => by
    obtain ⟨a, vs, e, f, r⟩ := h
    exact ⟨a, vs, e, f.mono z, Reps.mono z r⟩
  | .lst xs, v, h => by
    obtain ⟨a, vs, e, f, r⟩ := h
    exact ⟨a, vs, e, f.mono z, Reps.mono z r⟩
  | .scr xs, v, h => by
    obtain ⟨a, vs, e, f, r⟩ := h
    exact ⟨a, vs, e, f.mono z, Reps.mono z r⟩
  | .obj C ns xs, v, h => by
    obtain ⟨a, dx, vs, e, m, h, l, r⟩ := h
    exact ⟨a, dx, vs, e, ⟨(z.st a _ m h).2, m.2⟩, (z.st a _ m h).1, l, Reps.mono z r⟩
theorem Reps.mono (z : Fz O H M H' M') : ∀ {ds : List D} {vs : List V}, Reps O H M ds vs → Reps O H' M' ds vs
  | [], _, h => h
  | d :: ds, vs, h => by
    obtain ⟨v, r, e, h1, h2⟩ := h
    exact ⟨v, r, e, Rep.mono z h1, Reps.mono z h2⟩
end
end
theorem Reps.length {O H M} : ∀ {ds : List D} {vs : List V}, Reps O H M ds vs → ds.length = vs.length
  | [], _, h => by rw [show _ = [] from h]; rfl
  | d :: ds, vs, h => by
    obtain ⟨v, r, rfl, _, h2⟩ := h
    simp [Reps.length h2]
theorem Reps.get {O H M} : ∀ {ds : List D} {vs : List V} {i : Nat} {d : D}, Reps O H M ds vs → ds[i]? = some d → ∃ v, vs[i]? = some v ∧ Rep O H M d v
  | [], _, _, _, _, e => by simp at e
  | d :: ds, vs, i, x, h, e => by
    obtain ⟨v, r, rfl, h1, h2⟩ := h
    cases i with
    | zero => simp at e; subst e; exact ⟨v, rfl, h1⟩
    | succ i => exact Reps.get (i := i) h2 (by simpa using e)
theorem Reps.getV {O H M} {ds : List D} {vs : List V} {i : Nat} {v : V} (h : Reps O H M ds vs) (e : vs[i]? = some v) : ∃ d, ds[i]? = some d ∧ Rep O H M d v := by
  have hl := h.length
  have hi := (List.getElem?_eq_some_iff.mp e).1
  have hd : ds[i]? = some ds[i] := List.getElem?_eq_getElem (by omega)
  obtain ⟨v', e', r⟩ := h.get hd
  rw [e] at e'; cases e'
  exact ⟨_, hd, r⟩
theorem Reps.append {O H M} : ∀ {ds es : List D} {vs ws : List V}, Reps O H M ds vs → Reps O H M es ws → Reps O H M (ds ++ es) (vs ++ ws)
  | [], _, _, _, h, h' => by rw [show _ = _ from h]; exact h'
  | d :: ds, es, vs, ws, h, h' => by
    obtain ⟨v, r, rfl, h1, h2⟩ := h
    exact ⟨v, r ++ ws, rfl, h1, Reps.append h2 h'⟩
theorem Reps.one {O H M} {d : D} {v : V} (h : Rep O H M d v) : Reps O H M [d] [v] := ⟨v, [], rfl, h, rfl⟩
theorem Reps.set {O H M} {d : D} {v : V} (q : Rep O H M d v) : ∀ {ds : List D} {vs : List V} (i : Nat), Reps O H M ds vs → Reps O H M (ds.set i d) (vs.set i v)
  | [], _, _, h => by rw [show _ = _ from h]; rfl
  | x :: ds, vs, i, h => by
    obtain ⟨w, r, rfl, h1, h2⟩ := h
    cases i with
    | zero => exact ⟨v, r, rfl, q, h2⟩
    | succ i => exact ⟨w, r.set i v, rfl, h1, Reps.set q i h2⟩
theorem Reps.take {O H M} : ∀ {ds : List D} {vs : List V} (n : Nat), Reps O H M ds vs → Reps O H M (ds.take n) (vs.take n)
  | [], _, n, h => by rw [show _ = _ from h]; cases n <;> rfl
  | d :: ds, vs, n, h => by
    obtain ⟨v, r, rfl, h1, h2⟩ := h
    cases n with
    | zero => rfl
    | succ n => exact ⟨v, r.take n, rfl, h1, Reps.take n h2⟩
theorem Reps.drop {O H M} : ∀ {ds : List D} {vs : List V} (n : Nat), Reps O H M ds vs → Reps O H M (ds.drop n) (vs.drop n)
  | [], _, n, h => by rw [show _ = _ from h]; cases n <;> rfl
  | d :: ds, vs, n, h => by
    obtain ⟨v, r, rfl, h1, h2⟩ := h
    cases n with
    | zero => exact ⟨v, r, rfl, h1, h2⟩
    | succ n => exact Reps.drop n h2

/-- what the memory tells of an address -/
def RepO (O : Own) (H : Hp) (M : Mem) (a : Addr) : MO → Prop
  | .lst ds => ∃ vs, H a = some (.lst vs) ∧ Reps O H M ds vs
  | .ins C ns ds => ∃ dx vs, H a = some (.ins C dx (ns.zip vs)) ∧ ns.length = vs.length ∧ Reps O H M ds vs
  | .dic ks ds => ∃ vs, H a = some (.dK ((ks.map Sum.inr).zip vs)) ∧ ks.length = vs.length ∧ Reps O H M ds vs
structure Good (O : Own) (H : Hp) (M : Mem) : Prop where
  at_ : ∀ a o, M a = some o → RepO O H M a o
  hid : ∀ a, O.P a → M a = none ∧ H a ≠ none
theorem RepO.mono {O H M H' M'} {a : Addr} {o : MO} (z : Fz O H M H' M') (h : ∀ u, H a = some u → H' a = some u) (r : RepO O H M a o) : RepO O H' M' a o := by
  cases o with
  | lst ds => obtain ⟨vs, e, r⟩ := r; exact ⟨vs, h _ e, r.mono z⟩
  | ins C ns ds => obtain ⟨dx, vs, e, l, r⟩ := r; exact ⟨dx, vs, h _ e, l, r.mono z⟩
  | dic ks ds => obtain ⟨vs, e, l, r⟩ := r; exact ⟨vs, h _ e, l, r.mono z⟩
theorem RepO.there {O H M} {a : Addr} {o : MO} (r : RepO O H M a o) : H a ≠ none := by
  cases o with
  | lst ds => obtain ⟨vs, q, _⟩ := r; rw [q]; simp
  | ins C ns ds => obtain ⟨dx, vs, q, _⟩ := r; rw [q]; simp
  | dic ks ds => obtain ⟨vs, q, _⟩ := r; rw [q]; simp
theorem Good.none {O H M} (g : Good O H M) {a : Addr} (h : H a = none) : Fre O M a := by
  refine ⟨?_, fun p => (g.hid a p).2 h⟩
  cases e : M a with
  | none => rfl
  | some o => exact absurd h (g.at_ a o e).there
theorem Good.noP {O H M} (g : Good O H M) {a : Addr} {o : MO} (h : M a = some o) : ¬ O.P a := fun p => by rw [(g.hid a p).1] at h; cases h
/-- a new object by value: the memory is as it was -/
theorem fz_new {O H M} {p : Addr} {o : HO} (g : Good O H M) (h : H p = none) : Fz O H M (upd H p o) M :=
  ⟨fun a u m e => ⟨by rw [upd_ne (ne_of_none e h)]; exact e, m.1⟩, fun a q => upd_ne fun z => (g.hid a q).2 (z ▸ h)⟩
theorem good_new {O H M} {p : Addr} {o : HO} (g : Good O H M) (h : H p = none) : Good O (upd H p o) M := ⟨fun a u m =>
  (g.at_ a u m).mono (fz_new g h) fun v e => by rw [upd_ne (ne_of_none e h)]; exact e, fun a q => ⟨(g.hid a q).1, by rw [(fz_new g h).hid a q]; exact (g.hid a q).2⟩⟩
/-- a new object that may change -/
theorem fz_newM {O H M} {p : Addr} {o : HO} {u : MO} (g : Good O H M) (h : H p = none) : Fz O H M (upd H p o) (mput M p u) := ⟨fun a v m e =>
  have n := ne_of_none e h
  ⟨by rw [upd_ne n]; exact e, by rw [mput_ne n]; exact m.1⟩, fun a q => upd_ne fun z => (g.hid a q).2 (z ▸ h)⟩
/-- an object of the memory is written -/
theorem fz_put {O H M} {p : Addr} {o : HO} {u w : MO} (g : Good O H M) (h : M p = some w) : Fz O H M (upd H p o) (mput M p u) := ⟨fun a v m e => by
  have n : a ≠ p := fun z => by have m1 := m.1; rw [z, h] at m1; cases m1
  exact ⟨by rw [upd_ne n]; exact e, by rw [mput_ne n]; exact m.1⟩, fun a q => upd_ne fun z => g.noP h (z ▸ q)⟩
theorem good_put {O H M} {p : Addr} {o : HO} {u : MO} (g : Good O H M) (np : ¬ O.P p) (z : Fz O H M (upd H p o) (mput M p u)) (r : RepO O (upd H p o) (mput M p u) p u) : Good O (upd H p o) (mput M p u) := ⟨fun a w m => by
  by_cases e : a = p
  · subst e
    rw [mput_same] at m; cases m
    exact r
  · rw [mput_ne e] at m
    exact (g.at_ a w m).mono z fun v q => by rw [upd_ne e]; exact q, fun a q => by
  have e : a ≠ p := fun z => np (z ▸ q)
  rw [mput_ne e, upd_ne e]
  exact g.hid a q⟩
/-- an object of the memory is let go: from now on it stays as it is -/
theorem fz_del {O H M} {p : Addr} : Fz O H M H (mdel M p) := ⟨fun a v m e => ⟨e, by
  by_cases n : a = p
  · rw [n]; exact mdel_same
  · rw [mdel_ne n]; exact m.1⟩, fun _ _ => rfl⟩
theorem good_del {O H M} {p : Addr} (g : Good O H M) : Good O H (mdel M p) := ⟨fun a w m => by
  have n : a ≠ p := fun z => by rw [z, mdel_same] at m; cases m
  rw [mdel_ne n] at m
  exact (g.at_ a w m).mono fz_del fun _ q => q, fun a q => ⟨by
  by_cases n : a = p
  · rw [n]; exact mdel_same
  · rw [mdel_ne n]; exact (g.hid a q).1, (g.hid a q).2⟩⟩
theorem rep_frz {O H M} {p : Addr} {ds : List D} (g : Good O H M) (h : M p = some (.lst ds)) : Rep O H (mdel M p) (.lst ds) (.ref p) := by
  obtain ⟨vs, e, r⟩ := g.at_ p _ h
  exact ⟨p, vs, rfl, ⟨⟨mdel_same, g.noP h⟩, e⟩, r.mono fz_del⟩
theorem rep_frzO {O H M} {p C : Addr} {ns : List Str} {ds : List D} (g : Good O H M) (h : M p = some (.ins C ns ds)) : Rep O H (mdel M p) (.obj C ns ds) (.ref p) := by
  obtain ⟨dx, vs, e, l, r⟩ := g.at_ p _ h
  exact ⟨p, dx, vs, rfl, ⟨mdel_same, g.noP h⟩, e, l, r.mono fz_del⟩

/-! ### slots -/
abbrev DS0 := List (Option D)
def RepS (O : Own) (H : Hp) (M : Mem) (δ : DS0) (σ : L2.St) : Prop := δ.length = σ.length ∧ ∀ (i : Nat) (d : D), δ[i]? = some (some d) → ∃ v, σ[i]? = some (some v) ∧ Rep O H M d v
theorem RepS.mono {O H M H' M'} {δ : DS0} {σ : L2.St} (z : Fz O H M H' M') (r : RepS O H M δ σ) : RepS O H' M' δ σ := ⟨r.1, fun i d e => let ⟨v, h, q⟩ := r.2 i d e; ⟨v, h, q.mono z⟩⟩
theorem RepS.set {O H M} {δ : DS0} {σ : L2.St} {i : Nat} {d : D} {v : V} (r : RepS O H M δ σ) (q : Rep O H M d v) : RepS O H M (δ.set i (some d)) (σ.set i (some v)) := by
  refine ⟨by simp [r.1], fun j e h => ?_⟩
  by_cases n : j = i
  · subst n
    have hj : j < δ.length := by
      have := (List.getElem?_eq_some_iff.mp h).1
      simpa using this
    rw [List.getElem?_set_self hj] at h
    cases h
    exact ⟨v, List.getElem?_set_self (by rw [← r.1]; exact hj), q⟩
  · rw [List.getElem?_set_ne (Ne.symm n)] at h
    obtain ⟨w, h1, h2⟩ := r.2 j e h
    exact ⟨w, by rw [List.getElem?_set_ne (Ne.symm n)]; exact h1, h2⟩
theorem RepS.unset {O H M} {δ : DS0} {σ : L2.St} {i : Nat} {v : Option V} (r : RepS O H M δ σ) : RepS O H M (δ.set i none) (σ.set i v) := by
  refine ⟨by simp [r.1], fun j e h => ?_⟩
  by_cases n : j = i
  · subst n
    have hj : j < δ.length := by
      have := (List.getElem?_eq_some_iff.mp h).1
      simpa using this
    rw [List.getElem?_set_self hj] at h
    cases h
  · rw [List.getElem?_set_ne (Ne.symm n)] at h
    obtain ⟨w, h1, h2⟩ := r.2 j e h
    exact ⟨w, by rw [List.getElem?_set_ne (Ne.symm n)]; exact h1, h2⟩

/-! ### readings over data -/
abbrev DK := D → Mem → Prop
abbrev DE := DS0 → Mem → DK → Prop
abbrev DT := DS0 → Mem → (Bool → Mem → Prop) → Prop
abbrev DA := DS0 → Mem → (List D → Mem → Prop) → Prop
structure DEnds where
  nx : DS0 → Mem → Prop
  rt : DK
  bk : DS0 → Mem → Prop := fun _ _ => False
  ct : DS0 → Mem → Prop := fun _ _ => False
abbrev DSt := DEnds → DS0 → Mem → Prop
abbrev DG := D → DS0 → Mem → (DS0 → Mem → Prop) → Prop
abbrev D2 := D → D → Mem → DK → Prop
abbrev D1 := D → Mem → DK → Prop
abbrev DC := List D → Mem → DK → Prop

section
variable (O : Own)
def LfV (H : Hp) (M : Mem) (Q : DK) : VK := fun v H' => ∃ d M', Fz O H M H' M' ∧ Good O H' M' ∧ Rep O H' M' d v ∧ Q d M'
def LfS (H : Hp) (M : Mem) (Q : DS0 → Mem → Prop) : L2.St → Hp → Prop := fun σ' H' => ∃ δ' M', Fz O H M H' M' ∧ Good O H' M' ∧ RepS O H' M' δ' σ' ∧ Q δ' M'
structure EndsOk (H : Hp) (M : Mem) (Dd : DEnds) (Dn : Ends) : Prop where
  nx : ∀ σ H', LfS O H M Dd.nx σ H' → Dn.nx σ H'
  rt : ∀ v H', LfV O H M Dd.rt v H' → Dn.rt v H'
  bk : ∀ σ H', LfS O H M Dd.bk σ H' → Dn.bk σ H'
  ct : ∀ σ H', LfS O H M Dd.ct σ H' → Dn.ct σ H'
end
/-! ### errors -/
/-- an error: its class, its fields' names and values -/
abbrev DX := Addr → List Str → List D → Mem → Prop
abbrev DXS := Addr → List Str → List D → DS0 → Mem → Prop
/-- what an error carries: its own dict -/
def ErrD (O : Own) (H : Hp) (M : Mem) (d : Option Addr) (ns : List Str) (fs : List D) : Prop :=
  (ns = [] ∧ fs = [] ∧ d = none) ∨ ns ≠ [] ∧ ∃ dd vs, d = some dd ∧ Fre O M dd ∧ H dd = some (.xd (ns.zip vs)) ∧ ns.length = vs.length ∧ Reps O H M fs vs
def LfX (O : Own) (H : Hp) (M : Mem) (E : DX) : XK := fun c d H' => ∃ C ns fs M', c = .ref C ∧ Fz O H M H' M' ∧ Good O H' M' ∧ ErrD O H' M' d ns fs ∧ E C ns fs M'
def LfXS (O : Own) (H : Hp) (M : Mem) (E : DXS) : WX := fun c d σ' H' => ∃ C ns fs δ' M', c = .ref C ∧ Fz O H M H' M' ∧ Good O H' M' ∧ RepS O H' M' δ' σ' ∧ ErrD O H' M' d ns fs ∧ E C ns fs δ' M'
def XL (O : Own) (H : Hp) (M : Mem) (E : DXS) (W : WX) : Prop := ∀ c d σ' H', LfXS O H M E c d σ' H' → W c d σ' H'
theorem XL.trans {O : Own} {H M H1 M1 E W} (x : XL O H M E W) (z : Fz O H M H1 M1) : XL O H1 M1 E W := fun c d σ' H' ⟨C, ns, fs, δ', M', e, z', r⟩ => x c d σ' H' ⟨C, ns, fs, δ', M', e, z.trans z', r⟩
/-- what stands fixed through a body -/
structure Bs where
  K : PySem.W.Frag
  CR : Addr
  E : DXS
  W : WX
abbrev noE : DXS := fun _ _ _ _ _ => False
abbrev noW : WX := fun _ _ _ _ => False
theorem XL.no {O : Own} {H M W} : XL O H M noE W := fun _ _ _ _ ⟨_, _, _, _, _, _, _, _, _, _, q⟩ => q.elim
section
variable (B : Bs)
def lE (w : DE) : TE := fun σ H Q => ∃ P δ M Qd, RepS ⟨B.K, B.CR, P⟩ H M δ σ ∧ Good ⟨B.K, B.CR, P⟩ H M ∧ XL ⟨B.K, B.CR, P⟩ H M B.E B.W ∧ w δ M Qd ∧ ∀ v H', LfV ⟨B.K, B.CR, P⟩ H M Qd v H' → Q v H'
def lT (w : DT) : TT := fun σ H Q => ∃ P δ M Qd, RepS ⟨B.K, B.CR, P⟩ H M δ σ ∧ Good ⟨B.K, B.CR, P⟩ H M ∧ XL ⟨B.K, B.CR, P⟩ H M B.E B.W ∧ w δ M Qd ∧ ∀ b H' M', Fz ⟨B.K, B.CR, P⟩ H M H' M' → Good ⟨B.K, B.CR, P⟩ H' M' → Qd b M' → Q b H'
def lA (w : DA) : TA := fun σ H Q => ∃ P δ M Qd, RepS ⟨B.K, B.CR, P⟩ H M δ σ ∧ Good ⟨B.K, B.CR, P⟩ H M ∧ XL ⟨B.K, B.CR, P⟩ H M B.E B.W ∧ w δ M Qd ∧ ∀ vs H' ds M', Fz ⟨B.K, B.CR, P⟩ H M H' M' → Good ⟨B.K, B.CR, P⟩ H' M' → Reps ⟨B.K, B.CR, P⟩ H' M' ds vs → Qd ds M' → Q vs H'
def lS (w : DSt) : TS := fun Dn σ H => ∃ P δ M Dd, RepS ⟨B.K, B.CR, P⟩ H M δ σ ∧ Good ⟨B.K, B.CR, P⟩ H M ∧ XL ⟨B.K, B.CR, P⟩ H M B.E B.W ∧ w Dd δ M ∧ EndsOk ⟨B.K, B.CR, P⟩ H M Dd Dn
def lG (w : DG) : TG := fun v σ H Q => ∃ P d δ M Qd, Rep ⟨B.K, B.CR, P⟩ H M d v ∧ RepS ⟨B.K, B.CR, P⟩ H M δ σ ∧ Good ⟨B.K, B.CR, P⟩ H M ∧ XL ⟨B.K, B.CR, P⟩ H M B.E B.W ∧ w d δ M Qd ∧ ∀ σ' H', LfS ⟨B.K, B.CR, P⟩ H M Qd σ' H' → Q σ' H'
end
section
variable (K : PySem.W.Frag) (CR : Addr)
def l2 (r : D2) : R2 := fun x y H Q => ∃ P a b M Qd, Rep ⟨K, CR, P⟩ H M a x ∧ Rep ⟨K, CR, P⟩ H M b y ∧ Good ⟨K, CR, P⟩ H M ∧ r a b M Qd ∧ ∀ v H', LfV ⟨K, CR, P⟩ H M Qd v H' → Q v H'
def l1 (r : D1) : V → Hp → VK → Prop := fun x H Q => ∃ P a M Qd, Rep ⟨K, CR, P⟩ H M a x ∧ Good ⟨K, CR, P⟩ H M ∧ r a M Qd ∧ ∀ v H', LfV ⟨K, CR, P⟩ H M Qd v H' → Q v H'
def lC (r : DC) : List V → Hp → VK → Prop := fun xs H Q => ∃ P ds M Qd, Reps ⟨K, CR, P⟩ H M ds xs ∧ Good ⟨K, CR, P⟩ H M ∧ r ds M Qd ∧ ∀ v H', LfV ⟨K, CR, P⟩ H M Qd v H' → Q v H'
end
section
variable {O : Own}
theorem LfV.trans {H M H1 M1 Q v H'} (z : Fz O H M H1 M1) (h : LfV O H1 M1 Q v H') : LfV O H M Q v H' := let ⟨d, M', z', g, r, q⟩ := h; ⟨d, M', z.trans z', g, r, q⟩
theorem LfS.trans {H M H1 M1 Q v H'} (z : Fz O H M H1 M1) (h : LfS O H1 M1 Q v H') : LfS O H M Q v H' := let ⟨d, M', z', g, r, q⟩ := h; ⟨d, M', z.trans z', g, r, q⟩
theorem LfV.here {H M Q v} {d : D} (g : Good O H M) (r : Rep O H M d v) (q : Q d M) : LfV O H M Q v H := ⟨d, M, Fz.refl, g, r, q⟩
theorem EndsOk.trans {H M H1 M1 Dd Dn} (z : Fz O H M H1 M1) (k : EndsOk O H M Dd Dn) : EndsOk O H1 M1 Dd Dn :=
  ⟨fun σ H' h => k.nx σ H' (h.trans z), fun σ H' h => k.rt σ H' (h.trans z), fun σ H' h => k.bk σ H' (h.trans z), fun σ H' h => k.ct σ H' (h.trans z)⟩
end
/-! ### a rule with a stronger reading -/
section
variable {X : Cx}
theorem _root_.L2.PE.imp {e : Expr} {t t' : TE} (h : PE X e t) (i : ∀ σ H Q, t' σ H Q → t σ H Q) : PE X e t' := ⟨fun p s σ H Q I q => h.run p s σ H Q I (i σ H Q q)⟩
theorem _root_.L2.PT.imp {e : Expr} {t t' : TT} (h : PT X e t) (i : ∀ σ H Q, t' σ H Q → t σ H Q) : PT X e t' := ⟨fun p s σ H Q I q => h.run p s σ H Q I (i σ H Q q)⟩
theorem _root_.L2.PW.imp {e : Expr} {t t' : TT} (h : PW X e t) (i : ∀ σ H Q, t' σ H Q → t σ H Q) : PW X e t' := ⟨fun w p s σ H Q I q => h.run w p s σ H Q I (i σ H Q q)⟩
theorem _root_.L2.PA.imp {e : List Expr} {t t' : TA} (h : PA X e t) (i : ∀ σ H Q, t' σ H Q → t σ H Q) : PA X e t' := ⟨fun o p s σ H Q I q => h.run o p s σ H Q I (i σ H Q q)⟩
theorem _root_.L2.PS.imp {e : Stmt} {t t' : TS} (h : PS X e t) (i : ∀ Dn σ H, t' Dn σ H → t Dn σ H) : PS X e t' := ⟨fun p s σ H Dn I q => h.run p s σ H Dn I (i Dn σ H q)⟩
theorem _root_.L2.PSs.imp {e : List Stmt} {t t' : TS} (h : PSs X e t) (i : ∀ Dn σ H, t' Dn σ H → t Dn σ H) : PSs X e t' := ⟨fun p s σ H Dn I q => h.run p s σ H Dn I (i Dn σ H q)⟩
theorem _root_.L2.PG.imp {e : Expr} {t t' : TG} (h : PG X e t) (i : ∀ v σ H Q, t' v σ H Q → t v σ H Q) : PG X e t' := ⟨fun p s σ H v u Q I r q => h.run p s σ H v u Q I r (i v σ H Q q)⟩
theorem _root_.L2.OpR.imp {f : Value → Value → Sem Value} {r r' : R2} (h : OpR X f r) (i : ∀ x y H Q, r' x y H Q → r x y H Q) : OpR X f r' := fun p s σ H x y v u Q I rx ry q => h p s σ H x y v u Q I rx ry (i x y H Q q)
theorem _root_.L2.CallR.imp {f : Value} {r r' : List V → Hp → VK → Prop} (h : CallR X f r) (i : ∀ x H Q, r' x H Q → r x H Q) : CallR X f r' := fun p s σ H x u Q I rx q => h p s σ H x u Q I rx (i x H Q q)
theorem _root_.L2.UnR.imp {f : Value → Sem Value} {r r' : V → Hp → VK → Prop} (h : UnR X f r) (i : ∀ x H Q, r' x H Q → r x H Q) : UnR X f r' := fun p s σ H x u Q I rx q => h p s σ H x u Q I rx (i x H Q q)
end
/-! ### names, constants, operators -/
def dVar (i : Nat) : DE := fun δ M Q => ∃ d, δ[i]? = some (some d) ∧ Q d M
def dC (d : D) : DE := fun _ M Q => Q d M
def dOp (r : D2) (a b : DE) : DE := fun δ M Q => a δ M fun x M1 => b δ M1 fun y M2 => r x y M2 Q
def dUn (r : D1) (a : DE) : DE := fun δ M Q => a δ M fun x M1 => r x M1 Q
def dNil : DA := fun _ M Q => Q [] M
def dCons (a : DE) (t : DA) : DA := fun δ M Q => a δ M fun x M1 => t δ M1 fun xs M2 => Q (x :: xs) M2
def dCB (r : DC) (t : DA) : DE := fun δ M Q => t δ M fun ds M1 => r ds M1 Q
section
variable {X : Cx} {CR : Addr} {E : DXS} {W : WX} {a b c : Expr} {wa wb wc : DE} {pos : Pos}
abbrev bs (X : Cx) (CR : Addr) (E : DXS) (W : WX) : Bs := ⟨X.K, CR, E, W⟩
abbrev PD (X : Cx) (B : Bs) (e : Expr) (w : DE) : Prop := PE X e (lE B w)
abbrev PDT (X : Cx) (B : Bs) (e : Expr) (w : DT) : Prop := PT X e (lT B w)
abbrev PDW (X : Cx) (B : Bs) (e : Expr) (w : DT) : Prop := PW X e (lT B w)
abbrev PDA (X : Cx) (B : Bs) (es : List Expr) (w : DA) : Prop := PA X es (lA B w)
abbrev PDS (X : Cx) (B : Bs) (s : Stmt) (w : DSt) : Prop := PS X s (lS B w)
abbrev PDSs (X : Cx) (B : Bs) (s : List Stmt) (w : DSt) : Prop := PSs X s (lS B w)
abbrev PDG (X : Cx) (B : Bs) (e : Expr) (w : DG) : Prop := PG X e (lG B w)
theorem dv (i : Nat) {x : Str} (hN : X.N[i]? = some x := by rfl) (hv : Vis X.env.scope x := by first | exact Or.inl rfl | exact Or.inr (Or.inl rfl) | exact Or.inr (Or.inr rfl)) (hd : (x == ("__debug__" : Str)) = false := by decide)
    (hcd : (x == ("__classdict__" : Str)) = false := by decide) : PD X (bs X CR E W) (.Name x pos) (dVar i) := by
  refine (pv i hN hv hd hcd).imp fun σ H Q h => ?_
  obtain ⟨P, δ, M, Qd, hS, g, x, ⟨d, e, q⟩, k⟩ := h
  obtain ⟨v, ev, r⟩ := hS.2 i d e
  exact ⟨v, ev, k v H (LfV.here g r q)⟩
theorem pd_c {e : Expr} {d : D} {v : V} (h : PE X e (tC v)) (r : ∀ O H M, Rep O H M d v) : PD X (bs X CR E W) e (dC d) := by
  refine h.imp fun σ H Q h => ?_
  obtain ⟨P, δ, M, Qd, hS, g, x, q, k⟩ := h
  exact k v H (LfV.here g (r _ _ _) q)
theorem di {i j} : PD X (bs X CR E W) (.Constant (.int i) j pos) (dC (.int i)) := pd_c pe_int fun _ _ _ => rfl
theorem db {i j} : PD X (bs X CR E W) (.Constant (.bool i) j pos) (dC (.bl i)) := pd_c pe_bl fun _ _ _ => rfl
theorem dn {j} : PD X (bs X CR E W) (.Constant .none j pos) (dC .non) := pd_c pe_non fun _ _ _ => rfl
theorem ds {x j} : PD X (bs X CR E W) (.Constant (.str x) j pos) (dC (.str x)) := pd_c pe_str fun _ _ _ => rfl
/-- a module's constant -/
theorem dg {x : Str} {d : D} {v : V} {u : Value} (hm : X.mg x = some u) (r : RelV v u) (rd : ∀ O H M, Rep O H M d v) (hg : Gl X x := by rfl) (hd : (x == ("__debug__" : Str)) = false := by decide) : PD X (bs X CR E W) (.Name x pos) (dC d) := pd_c (pe_glob hg hm r hd) rd
theorem op_ok {r : D2} : ∀ σ H Q, lE (bs X CR E W) (dOp r wa wb) σ H Q → tOp (l2 X.K CR r) (lE (bs X CR E W) wa) (lE (bs X CR E W) wb) σ H Q := by
  intro σ H Q h
  obtain ⟨P, δ, M, Qd, hS, g, x, w, k⟩ := h
  refine ⟨P, δ, M, _, hS, g, x, w, fun v H1 ⟨d, M1, z1, g1, r1, w1⟩ => ?_⟩
  refine ⟨P, δ, M1, _, hS.mono z1, g1, x.trans z1, w1, fun v2 H2 ⟨d2, M2, z2, g2, r2, w2⟩ => ?_⟩
  exact ⟨P, d, d2, M2, _, r1.mono z2, r2, g2, w2, fun v3 H3 l => k v3 H3 (l.trans (z1.trans z2))⟩
theorem d_op {op : Operator} {r : D2} (ho : OpR X (binaryOp op) (l2 X.K CR r)) (ha : PD X (bs X CR E W) a wa) (hb : PD X (bs X CR E W) b wb) : PD X (bs X CR E W) (.BinOp a op b pos) (dOp r wa wb) := (pe_op ho ha hb).imp op_ok
theorem d_cmp {op : CmpOp} {r : D2} (ho : OpR X (compareOp op) (l2 X.K CR r)) (ha : PD X (bs X CR E W) a wa) (hb : PD X (bs X CR E W) b wb) (hm : behindInMarks op b = false := by first | exact nomark _ | rfl) : PD X (bs X CR E W) (.Compare a [op] [b] pos) (dOp r wa wb) := (pe_cmpR ho ha hb hm).imp op_ok
theorem d_un {op : UnaryOp} {r : D1} (ho : UnR X (unaryOp op) (l1 X.K CR r)) (ha : PD X (bs X CR E W) a wa) : PD X (bs X CR E W) (.UnaryOp op a pos) (dUn r wa) := by
  refine (pe_un ho ha).imp fun σ H Q h => ?_
  obtain ⟨P, δ, M, Qd, hS, g, x, w, k⟩ := h
  exact ⟨P, δ, M, _, hS, g, x, w, fun v H1 ⟨d, M1, z1, g1, r1, w1⟩ => ⟨P, d, M1, _, r1, g1, w1, fun v3 H3 l => k v3 H3 (l.trans z1)⟩⟩
/-- a value that is used as it is by a rule over values -/
theorem thenE {w : DE} {r : D1} {t : V → Hp → VK → Prop} (ht : ∀ x H Q, l1 X.K CR r x H Q → t x H Q) : ∀ σ H Q, lE (bs X CR E W) (dUn r w) σ H Q → lE (bs X CR E W) w σ H (fun x H1 => t x H1 Q) := by
  intro σ H Q h
  obtain ⟨P, δ, M, Qd, hS, g, x, w, k⟩ := h
  exact ⟨P, δ, M, _, hS, g, x, w, fun v H1 ⟨d, M1, z1, g1, r1, w1⟩ => ht _ _ _ ⟨P, d, M1, _, r1, g1, w1, fun v3 H3 l => k v3 H3 (l.trans z1)⟩⟩
/-! ### argument lists -/
theorem da_nil : PDA X (bs X CR E W) [] dNil := by
  refine pa_nil.imp fun σ H Q h => ?_
  obtain ⟨P, δ, M, Qd, hS, g, x, w, k⟩ := h
  exact k [] H [] M Fz.refl g rfl w
theorem da_cons {e : Expr} {es : List Expr} {w : DE} {t : DA} (ha : PD X (bs X CR E W) e w) (hr : PDA X (bs X CR E W) es t) (hs : starEach (e :: es) X.env = (false, eval e X.env) :: starEach es X.env := by rfl) : PDA X (bs X CR E W) (e :: es) (dCons w t) := by
  refine (pa_cons ha hr hs).imp fun σ H Q h => ?_
  obtain ⟨P, δ, M, Qd, hS, g, x, w, k⟩ := h
  refine ⟨P, δ, M, _, hS, g, x, w, fun v H1 ⟨d, M1, z1, g1, r1, w1⟩ => ⟨P, δ, M1, _, hS.mono z1, g1, x.trans z1, w1, fun vs H2 ds M2 z2 g2 rs w2 => ?_⟩⟩
  exact k (v :: vs) H2 (d :: ds) M2 (z1.trans z2) g2 ⟨v, vs, rfl, r1.mono z2, rs⟩ w2
theorem cb_ok {r : DC} {t : DA} : ∀ σ H Q, lE (bs X CR E W) (dCB r t) σ H Q → tCB (lC X.K CR r) (lA (bs X CR E W) t) σ H Q := by
  intro σ H Q h
  obtain ⟨P, δ, M, Qd, hS, g, x, w, k⟩ := h
  exact ⟨P, δ, M, _, hS, g, x, w, fun vs H1 ds M1 z1 g1 rs w1 => ⟨P, ds, M1, _, rs, g1, w1, fun v3 H3 l => k v3 H3 (l.trans z1)⟩⟩
/-- f(e, ..), f a built-in function, a built-in type, a module's name for a built-in -/
theorem d_B {x : Str} {e : Expr} {es : List Expr} {id : String} {r : DC} {t : DA} {p : Pos} (hc : CallR X (.builtin id) (lC X.K CR r)) (hm : X.mg x = none) (ha : PDA X (bs X CR E W) (e :: es) t) (hv : bootBuiltins x = some (.builtin id) := by decide +kernel) (hg : Gl X x := by rfl) (hn : x ≠ "__name__" := by decide) (hdb : (x == ("__debug__" : Str)) = false := by decide)
    (he : starEach (e :: es) X.env = (false, eval e X.env) :: starEach es X.env := by rfl) (hpl : (backTo pos (starEach es X.env)).any (·.1) = false := by rfl) : PD X (bs X CR E W) (.Call (.Name x p) (e :: es) [] pos) (dCB r t) := (pe_callB hc hg hm hv ha hn hdb he hpl).imp cb_ok
theorem d_Ty {x : Str} {e : Expr} {es : List Expr} {T : String} {r : DC} {t : DA} {p : Pos} (hc : CallR X (.type T) (lC X.K CR r)) (hm : X.mg x = none) (ha : PDA X (bs X CR E W) (e :: es) t) (hv : bootBuiltins x = some (.type T) := by decide +kernel) (hg : Gl X x := by rfl) (hn : x ≠ "__name__" := by decide) (hdb : (x == ("__debug__" : Str)) = false := by decide)
    (he : starEach (e :: es) X.env = (false, eval e X.env) :: starEach es X.env := by rfl) (hpl : (backTo pos (starEach es X.env)).any (·.1) = false := by rfl) : PD X (bs X CR E W) (.Call (.Name x p) (e :: es) [] pos) (dCB r t) := (pe_callTy hc hg hm hv ha hn hdb he hpl).imp cb_ok
/-! ### displays -/
def rTup : DC := fun ds M Q => ds.length ≤ sizeLine ∧ Q (.tup ds) M
def rLstV : DC := fun ds M Q => ds.length ≤ sizeLine ∧ Q (.lst ds) M
def rLstR : DC := fun ds M Q => ds.length ≤ sizeLine ∧ ∀ p, M p = none → Q (.ref p) (mput M p (.lst ds))
theorem dispE {t : DA} {r : DC} {f : List V → HO} (hr : ∀ P ds vs H M Qd, Reps ⟨X.K, CR, P⟩ H M ds vs → Good ⟨X.K, CR, P⟩ H M → r ds M Qd → vs.length ≤ sizeLine ∧ ∀ p, H p = none → LfV ⟨X.K, CR, P⟩ H M Qd (.ref p) (upd H p (f vs))) :
    ∀ σ H Q, lE (bs X CR E W) (dCB r t) σ H Q → lA (bs X CR E W) t σ H (fun xs H1 => xs.length ≤ sizeLine ∧ ∀ p, H1 p = none → Q (.ref p) (upd H1 p (f xs))) := by
  intro σ H Q h
  obtain ⟨P, δ, M, Qd, hS, g, x, w, k⟩ := h
  refine ⟨P, δ, M, _, hS, g, x, w, fun vs H1 ds M1 z1 g1 rs w1 => ?_⟩
  obtain ⟨h1, h2⟩ := hr P ds vs H1 M1 Qd rs g1 w1
  exact ⟨h1, fun p hp => k _ _ ((h2 p hp).trans z1)⟩
theorem newT {O : Own} {H M} {ds : List D} {vs : List V} {p : Addr} {Q : DK} (g : Good O H M) (hp : H p = none) (rs : Reps O H M ds vs) (q : Q (.tup ds) M) : LfV O H M Q (.ref p) (upd H p (.tup vs)) :=
  ⟨.tup ds, M, fz_new g hp, good_new g hp, ⟨p, vs, rfl, ⟨g.none hp, upd_same⟩, rs.mono (fz_new g hp)⟩, q⟩
theorem newL {O : Own} {H M} {ds : List D} {vs : List V} {p : Addr} {Q : DK} (g : Good O H M) (hp : H p = none) (rs : Reps O H M ds vs) (q : Q (.lst ds) M) : LfV O H M Q (.ref p) (upd H p (.lst vs)) :=
  ⟨.lst ds, M, fz_new g hp, good_new g hp, ⟨p, vs, rfl, ⟨g.none hp, upd_same⟩, rs.mono (fz_new g hp)⟩, q⟩
theorem newR {O : Own} {H M} {ds : List D} {vs : List V} {p : Addr} {Q : DK} (g : Good O H M) (hp : H p = none) (rs : Reps O H M ds vs) (q : Q (.ref p) (mput M p (.lst ds))) : LfV O H M Q (.ref p) (upd H p (.lst vs)) :=
  ⟨.ref p, _, fz_newM g hp, good_put g (g.none hp).2 (fz_newM g hp) (show RepO O _ _ p (.lst ds) from ⟨vs, upd_same, rs.mono (fz_newM g hp)⟩), rfl, q⟩
theorem d_tup {es : List Expr} {t : DA} {x1} (h : PDA X (bs X CR E W) es t) : PD X (bs X CR E W) (.Tuple es x1 pos) (dCB rTup t) := (pe_tup h).imp (dispE fun _ _ _ _ _ _ rs g w => ⟨by rw [← rs.length]; exact w.1, fun _ hp => newT g hp rs w.2⟩)
theorem d_lst {es : List Expr} {t : DA} (h : PDA X (bs X CR E W) es t) : PD X (bs X CR E W) (.List es pos) (dCB rLstV t) := (pe_lst h).imp (dispE fun _ _ _ _ _ _ rs g w => ⟨by rw [← rs.length]; exact w.1, fun _ hp => newL g hp rs w.2⟩)
theorem d_lstR {es : List Expr} {t : DA} (h : PDA X (bs X CR E W) es t) : PD X (bs X CR E W) (.List es pos) (dCB rLstR t) := (pe_lst h).imp (dispE fun _ _ _ _ _ _ rs g w => ⟨by rw [← rs.length]; exact w.1, fun p hp => newR g hp rs (w.2 p (g.none hp).1)⟩)
/-! ### tests -/
def dTst (w : DE) : DT := fun δ M Q => w δ M fun d M1 => ∃ b, d = .bl b ∧ Q b M1
theorem tstE {w : DE} : ∀ σ H (Q : Bool → Hp → Prop), lT (bs X CR E W) (dTst w) σ H Q → lE (bs X CR E W) w σ H (fun x H1 => ∃ k, x = .bl k ∧ Q k H1) := by
  intro σ H Q h
  obtain ⟨P, δ, M, Qd, hS, g, x, w, k⟩ := h
  refine ⟨P, δ, M, _, hS, g, x, w, fun v H1 ⟨d, M1, z1, g1, r1, b, e, q⟩ => ?_⟩
  subst e
  exact ⟨b, r1, k b H1 M1 z1 g1 q⟩
theorem t_cmp {op : CmpOp} {r : D2} (ho : OpR X (compareOp op) (l2 X.K CR r)) (ha : PD X (bs X CR E W) a wa) (hb : PD X (bs X CR E W) b wb) (hm : behindInMarks op b = false := by first | exact nomark _ | rfl) : PDT X (bs X CR E W) (.Compare a [op] [b] pos) (dTst (dOp r wa wb)) :=
  (pt_cmpR ho ha hb hm).imp fun σ H Q h => op_ok σ H _ (by
    obtain ⟨P, δ, M, Qd, hS, g, x, w, k⟩ := h
    refine ⟨P, δ, M, _, hS, g, x, w, fun v H1 ⟨d, M1, z1, g1, r1, b, e, q⟩ => ?_⟩
    subst e
    exact ⟨b, r1, k b H1 M1 z1 g1 q⟩)
/-- a value that is True or False, as a test -/
theorem t_val {e : Expr} {w : DE} (h : PD X (bs X CR E W) e w) (he : ∀ whole, isTrue e X.env whole = (do let v ← whole; standAt e.pos; holding [v] (truthy v)) := by intro _; rfl) : PDT X (bs X CR E W) e (dTst w) := (pt_val h he).imp tstE
/-- any value as a test -/
def TruD : D → Mem → Bool → Prop
  | .non, _, k => k = false
  | .bl b, _, k => k = b
  | .int i, _, k => k = (i != 0)
  | .str y, _, k => y.length ≤ sizeLine ∧ k = ((y.length : Int) != 0)
  | .tup xs, _, k => k = !xs.isEmpty
  | .lst xs, _, k => k = !xs.isEmpty
  | .scr xs, _, k => k = !xs.isEmpty
  | .ref p, M, k => ∃ xs, M p = some (.lst xs) ∧ k = !xs.isEmpty
  | _, _, _ => False
def dTru (w : DE) : DT := fun δ M Q => w δ M fun d M1 => ∃ b, TruD d M1 b ∧ Q b M1
theorem Reps.isEmpty {O H M} {ds : List D} {vs : List V} (h : Reps O H M ds vs) : ds.isEmpty = vs.isEmpty := by
  have e := h.length
  cases ds <;> cases vs <;> simp_all
theorem truD_ok {O : Own} {H M} {d : D} {v : V} {k : Bool} (g : Good O H M) (r : Rep O H M d v) (t : TruD d M k) : TruV O.K v H k := by
  cases d with
  | non => rw [show v = .non from r]; exact t
  | bl b => rw [show v = .bl b from r]; exact t
  | int i => rw [show v = .int i from r]; exact t
  | str x => rw [show v = .str x from r]; exact t
  | tup xs =>
    obtain ⟨a, vs, rfl, f, rs⟩ := r
    exact .inr (.inl ⟨vs, f.sq, by rw [← rs.isEmpty]; exact t⟩)
  | lst xs =>
    obtain ⟨a, vs, rfl, f, rs⟩ := r
    exact .inl ⟨vs, f.sq, by rw [← rs.isEmpty]; exact t⟩
  | scr xs =>
    obtain ⟨a, vs, rfl, f, rs⟩ := r
    exact .inl ⟨vs, f.sq, by rw [← rs.isEmpty]; exact t⟩
  | ref p =>
    rw [show v = .ref p from r]
    obtain ⟨xs, e, t⟩ := t
    obtain ⟨vs, e1, rs⟩ := g.at_ p _ e
    exact .inl ⟨vs, .of e1, by rw [← rs.isEmpty]; exact t⟩
  | _ => exact t.elim
theorem t_tru {e : Expr} {w : DE} (h : PD X (bs X CR E W) e w) (he : ∀ whole, isTrue e X.env whole = (do let v ← whole; standAt e.pos; holding [v] (truthy v)) := by intro _; rfl) : PDT X (bs X CR E W) e (dTru w) := by
  refine (pt_truth h he).imp fun σ H Q h => ?_
  obtain ⟨P, δ, M, Qd, hS, g, x, w, k⟩ := h
  exact ⟨P, δ, M, _, hS, g, x, w, fun v H1 ⟨d, M1, z1, g1, r1, b, t, q⟩ => ⟨b, truD_ok g1 r1 t, k b H1 M1 z1 g1 q⟩⟩
def dAnd (t u : DT) : DT := fun δ M Q => t δ M fun c M1 => if c = true then u δ M1 Q else Q false M1
def dOr (t u : DT) : DT := fun δ M Q => t δ M fun c M1 => if c = true then Q true M1 else u δ M1 Q
def dNot (t : DT) : DT := fun δ M Q => t δ M fun c M1 => Q (!c) M1
variable {ta tb : DT} {rest : List Expr}
theorem thenT {f : DT → DT} {u : TT → TT} (hu : ∀ P δ M H σ (Q : Bool → Hp → Prop) Qd, RepS ⟨X.K, CR, P⟩ H M δ σ → Good ⟨X.K, CR, P⟩ H M → f ta δ M Qd → (∀ b H' M', Fz ⟨X.K, CR, P⟩ H M H' M' → Good ⟨X.K, CR, P⟩ H' M' → Qd b M' → Q b H') → u (lT (bs X CR E W) ta) σ H Q) :
    ∀ σ H Q, lT (bs X CR E W) (f ta) σ H Q → u (lT (bs X CR E W) ta) σ H Q := fun σ H Q ⟨P, δ, M, Qd, hS, g, x, w, k⟩ => hu P δ M H σ Q Qd hS g w k
theorem w_and1 (ha : PDT X (bs X CR E W) a ta) : PDW X (bs X CR E W) (.BoolOp .And [a] pos) ta := pw_and1 ha
theorem w_or1 (ha : PDT X (bs X CR E W) a ta) : PDW X (bs X CR E W) (.BoolOp .Or [a] pos) ta := pw_or1 ha
theorem w_and (ha : PDT X (bs X CR E W) a ta) (hb : PDW X (bs X CR E W) (.BoolOp .And (b :: rest) pos) tb) : PDW X (bs X CR E W) (.BoolOp .And (a :: b :: rest) pos) (dAnd ta tb) := by
  refine (pw_and ha hb).imp fun σ H Q h => ?_
  obtain ⟨P, δ, M, Qd, hS, g, x, w, k⟩ := h
  refine ⟨P, δ, M, _, hS, g, x, w, fun c H1 M1 z1 g1 q => ?_⟩
  cases c with
  | true => exact ⟨P, δ, M1, Qd, hS.mono z1, g1, x.trans z1, q, fun b H' M' z' g' q' => k b H' M' (z1.trans z') g' q'⟩
  | false => exact k false H1 M1 z1 g1 q
theorem w_or (ha : PDT X (bs X CR E W) a ta) (hb : PDW X (bs X CR E W) (.BoolOp .Or (b :: rest) pos) tb) : PDW X (bs X CR E W) (.BoolOp .Or (a :: b :: rest) pos) (dOr ta tb) := by
  refine (pw_or ha hb).imp fun σ H Q h => ?_
  obtain ⟨P, δ, M, Qd, hS, g, x, w, k⟩ := h
  refine ⟨P, δ, M, _, hS, g, x, w, fun c H1 M1 z1 g1 q => ?_⟩
  cases c with
  | false => exact ⟨P, δ, M1, Qd, hS.mono z1, g1, x.trans z1, q, fun b H' M' z' g' q' => k b H' M' (z1.trans z') g' q'⟩
  | true => exact k true H1 M1 z1 g1 q
theorem t_bool {e : Expr} {t : DT} (h : PDW X (bs X CR E W) e t) : PDT X (bs X CR E W) e t := h.pt
theorem t_not (ha : PDT X (bs X CR E W) a ta) : PDT X (bs X CR E W) (.UnaryOp .Not a pos) (dNot ta) := by
  refine (pt_not ha).imp fun σ H Q h => ?_
  obtain ⟨P, δ, M, Qd, hS, g, x, w, k⟩ := h
  exact ⟨P, δ, M, _, hS, g, x, w, fun c H1 M1 z1 g1 q => k (!c) H1 M1 z1 g1 q⟩
/-- and, or, not as values (True or False) -/
def dAndV (a b : DE) : DE := fun δ M Q => a δ M fun x M1 => ∃ c, x = .bl c ∧ if c = true then b δ M1 Q else Q (.bl false) M1
def dOrV (a b : DE) : DE := fun δ M Q => a δ M fun x M1 => ∃ c, x = .bl c ∧ if c = true then Q (.bl true) M1 else b δ M1 Q
def dNotV (a : DE) : DE := fun δ M Q => a δ M fun x M1 => ∃ c, x = .bl c ∧ Q (.bl (!c)) M1
theorem v_one {op} {w : DE} (h : PD X (bs X CR E W) a w) : PD X (bs X CR E W) (.BoolOp op [a] pos) w := pe_one h
theorem v_and (ha : PD X (bs X CR E W) a wa) (hb : PD X (bs X CR E W) (.BoolOp .And (b :: rest) pos) wb) : PD X (bs X CR E W) (.BoolOp .And (a :: b :: rest) pos) (dAndV wa wb) := by
  refine (pe_and ha hb).imp fun σ H Q h => ?_
  obtain ⟨P, δ, M, Qd, hS, g, x, w, k⟩ := h
  refine ⟨P, δ, M, _, hS, g, x, w, fun v H1 ⟨d, M1, z1, g1, r1, c, e, q⟩ => ?_⟩
  subst e
  refine ⟨c, r1, ?_⟩
  cases c with
  | true => exact ⟨P, δ, M1, Qd, hS.mono z1, g1, x.trans z1, q, fun v3 H3 l => k v3 H3 (l.trans z1)⟩
  | false => exact k _ H1 ((LfV.here (d := .bl _) g1 rfl q).trans z1)
theorem v_or (ha : PD X (bs X CR E W) a wa) (hb : PD X (bs X CR E W) (.BoolOp .Or (b :: rest) pos) wb) : PD X (bs X CR E W) (.BoolOp .Or (a :: b :: rest) pos) (dOrV wa wb) := by
  refine (pe_or ha hb).imp fun σ H Q h => ?_
  obtain ⟨P, δ, M, Qd, hS, g, x, w, k⟩ := h
  refine ⟨P, δ, M, _, hS, g, x, w, fun v H1 ⟨d, M1, z1, g1, r1, c, e, q⟩ => ?_⟩
  subst e
  refine ⟨c, r1, ?_⟩
  cases c with
  | false => exact ⟨P, δ, M1, Qd, hS.mono z1, g1, x.trans z1, q, fun v3 H3 l => k v3 H3 (l.trans z1)⟩
  | true => exact k _ H1 ((LfV.here (d := .bl _) g1 rfl q).trans z1)
theorem v_not (ha : PD X (bs X CR E W) a wa) : PD X (bs X CR E W) (.UnaryOp .Not a pos) (dNotV wa) := by
  refine (pe_not ha).imp fun σ H Q h => ?_
  obtain ⟨P, δ, M, Qd, hS, g, x, w, k⟩ := h
  refine ⟨P, δ, M, _, hS, g, x, w, fun v H1 ⟨d, M1, z1, g1, r1, c, e, q⟩ => ?_⟩
  subst e
  exact ⟨c, r1, k _ H1 ((LfV.here (d := .bl _) g1 rfl q).trans z1)⟩
def dIfE (t : DT) (a b : DE) : DE := fun δ M Q => t δ M fun c M1 => if c = true then a δ M1 Q else b δ M1 Q
theorem d_ifE {c : Expr} (hc : PDT X (bs X CR E W) c ta) (ha : PD X (bs X CR E W) a wa) (hb : PD X (bs X CR E W) b wb) : PD X (bs X CR E W) (.IfExp c a b pos) (dIfE ta wa wb) := by
  refine (pe_ifExp hc ha hb).imp fun σ H Q h => ?_
  obtain ⟨P, δ, M, Qd, hS, g, x, w, k⟩ := h
  refine ⟨P, δ, M, _, hS, g, x, w, fun c H1 M1 z1 g1 q => ?_⟩
  cases c with
  | true => exact ⟨P, δ, M1, Qd, hS.mono z1, g1, x.trans z1, q, fun v3 H3 l => k v3 H3 (l.trans z1)⟩
  | false => exact ⟨P, δ, M1, Qd, hS.mono z1, g1, x.trans z1, q, fun v3 H3 l => k v3 H3 (l.trans z1)⟩
/-- a op b op c -/
def dChain (r r' : D2) (a b c : DE) : DE := fun δ M Q => a δ M fun x M1 => b δ M1 fun y M2 => r x y M2 fun z M3 => ∃ k, z = .bl k ∧ (if k = true then c δ M3 fun u M4 => r' y u M4 Q else Q (.bl false) M3)
theorem chain_ok {r r' : D2} : ∀ σ H Q, lE (bs X CR E W) (dChain r r' wa wb wc) σ H Q → tChain (l2 X.K CR r) (l2 X.K CR r') (lE (bs X CR E W) wa) (lE (bs X CR E W) wb) (lE (bs X CR E W) wc) σ H Q := by
  intro σ H Q h
  obtain ⟨P, δ, M, Qd, hS, g, x, w, k⟩ := h
  refine ⟨P, δ, M, _, hS, g, x, w, fun v H1 ⟨d, M1, z1, g1, r1, w1⟩ => ?_⟩
  refine ⟨P, δ, M1, _, hS.mono z1, g1, x.trans z1, w1, fun v2 H2 ⟨d2, M2, z2, g2, r2, w2⟩ => ?_⟩
  refine ⟨P, d, d2, M2, _, r1.mono z2, r2, g2, w2, fun v3 H3 ⟨d3, M3, z3, g3, r3, b, e, q⟩ => ?_⟩
  subst e
  refine ⟨b, r3, ?_⟩
  cases b with
  | false => exact k _ H3 ((LfV.here (d := .bl _) g3 rfl q).trans ((z1.trans z2).trans z3))
  | true =>
    exact ⟨P, δ, M3, _, ((hS.mono z1).mono z2).mono z3, g3, x.trans ((z1.trans z2).trans z3), q, fun v4 H4 ⟨d4, M4, z4, g4, r4, w4⟩ => ⟨P, d2, d4, M4, _, (r2.mono z3).mono z4, r4, g4, w4, fun v5 H5 l => k v5 H5 (l.trans (((z1.trans z2).trans z3).trans z4))⟩⟩
theorem d_chain {op op' : CmpOp} {r r' : D2} (ho : OpR X (compareOp op) (l2 X.K CR r)) (ho' : OpR X (compareOp op') (l2 X.K CR r')) (ha : PD X (bs X CR E W) a wa) (hb : PD X (bs X CR E W) b wb) (hc : PD X (bs X CR E W) c wc)
    (hm : lastMarks [op, op'] [b, c] = false := by with_unfolding_all rfl) : PD X (bs X CR E W) (.Compare a [op, op'] [b, c] pos) (dChain r r' wa wb wc) := (pe_chain ho ho' ha hb hc hm).imp chain_ok
theorem t_chain {op op' : CmpOp} {r r' : D2} (ho : OpR X (compareOp op) (l2 X.K CR r)) (ho' : OpR X (compareOp op') (l2 X.K CR r')) (ha : PD X (bs X CR E W) a wa) (hb : PD X (bs X CR E W) b wb) (hc : PD X (bs X CR E W) c wc)
    (hm : lastMarks [op, op'] [b, c] = false := by with_unfolding_all rfl) : PDT X (bs X CR E W) (.Compare a [op, op'] [b, c] pos) (dTst (dChain r r' wa wb wc)) :=
  (pt_chain ho ho' ha hb hc hm).imp fun σ H Q h => chain_ok σ H _ (by
    obtain ⟨P, δ, M, Qd, hS, g, x, w, k⟩ := h
    refine ⟨P, δ, M, _, hS, g, x, w, fun v H1 ⟨d, M1, z1, g1, r1, b, e, q⟩ => ?_⟩
    subst e
    exact ⟨b, r1, k b H1 M1 z1 g1 q⟩)
end
/-! ### statements -/
def dNext : DSt := fun D δ M => D.nx δ M
def dSeq (t u : DSt) : DSt := fun D δ M => t { D with nx := u D } δ M
def dSet (i : Nat) (w : DE) : DSt := fun D δ M => w δ M fun d M1 => D.nx (δ.set i (some d)) M1
def dAsg (w : DE) (g : DG) : DSt := fun D δ M => w δ M fun d M1 => g d δ M1 D.nx
def dDrop (w : DE) : DSt := fun D δ M => w δ M fun _ M1 => D.nx δ M1
def dRet (w : DE) : DSt := fun D δ M => w δ M D.rt
def dRetN : DSt := fun D _ M => D.rt .non M
def dIf (c : DT) (t u : DSt) : DSt := fun D δ M => c δ M fun b M1 => if b = true then t D δ M1 else u D δ M1
def dBreak : DSt := fun D δ M => D.bk δ M
def dCont : DSt := fun D δ M => D.ct δ M
/-- what is told of d may be told of what it is when it is let go -/
def FrzQ (Q : DK) : DK := fun d M => (∃ p ds, d = .ref p ∧ M p = some (.lst ds) ∧ Q (.lst ds) (mdel M p)) ∨ (∃ p C ns ds, d = .ref p ∧ M p = some (.ins C ns ds) ∧ Q (.obj C ns ds) (mdel M p))
/-- return of a list that is let go -/
def dRetF (w : DE) : DSt := fun D δ M => w δ M (FrzQ D.rt)
theorem FrzQ.ok {O : Own} {H M Q v} (h : LfV O H M (FrzQ Q) v H') : LfV O H M Q v H' := by
  obtain ⟨d, M', z, g, r, q⟩ := h
  rcases q with ⟨p, ds, rfl, e, q⟩ | ⟨p, C, ns, ds, rfl, e, q⟩
  · rw [show v = .ref p from r]
    exact ⟨_, _, z.trans fz_del, good_del g, rep_frz g e, q⟩
  · rw [show v = .ref p from r]
    exact ⟨_, _, z.trans fz_del, good_del g, rep_frzO g e, q⟩
section
variable {X : Cx} {CR : Addr} {E : DXS} {W : WX} {e : Expr} {w : DE} {pos : Pos} {st : Stmt} {rest : List Stmt} {t u : DSt}
theorem s_nil : PDSs X (bs X CR E W) [] dNext := pss_nil.imp fun Dn σ H ⟨P, δ, M, Dd, hS, g, x, w, k⟩ => k.nx σ H ⟨δ, M, Fz.refl, g, hS, w⟩
theorem s_pass : PDS X (bs X CR E W) (.Pass pos) dNext := ps_pass.imp fun Dn σ H ⟨P, δ, M, Dd, hS, g, x, w, k⟩ => k.nx σ H ⟨δ, M, Fz.refl, g, hS, w⟩
theorem s_break : PDS X (bs X CR E W) (.Break pos) dBreak := ps_break.imp fun Dn σ H ⟨P, δ, M, Dd, hS, g, x, w, k⟩ => k.bk σ H ⟨δ, M, Fz.refl, g, hS, w⟩
theorem s_cont : PDS X (bs X CR E W) (.Continue pos) dCont := ps_continue.imp fun Dn σ H ⟨P, δ, M, Dd, hS, g, x, w, k⟩ => k.ct σ H ⟨δ, M, Fz.refl, g, hS, w⟩
theorem s_doc {x j pos pos'} : PDS X (bs X CR E W) (.Expr (.Constant (.str x) j pos) pos') dNext := ps_doc.imp fun Dn σ H ⟨P, δ, M, Dd, hS, g, x, w, k⟩ => k.nx σ H ⟨δ, M, Fz.refl, g, hS, w⟩
theorem s_cons (h1 : PDS X (bs X CR E W) st t) (h2 : PDSs X (bs X CR E W) rest u) : PDSs X (bs X CR E W) (st :: rest) (dSeq t u) := by
  refine (pss_cons h1 h2).imp fun Dn σ H h => ?_
  obtain ⟨P, δ, M, Dd, hS, g, x, w, k⟩ := h
  exact ⟨P, δ, M, _, hS, g, x, w, ⟨fun σ' H' ⟨δ', M', z, g', r', q⟩ => ⟨P, δ', M', Dd, r', g', x.trans z, q, k.trans z⟩, k.rt, k.bk, k.ct⟩⟩
theorem s_one (h1 : PDS X (bs X CR E W) st t) : PDSs X (bs X CR E W) [st] t := pss_one h1
theorem s_set {i : Nat} {x : Str} {pos' : Pos} (hN : X.N.Nodup) (he : PD X (bs X CR E W) e w) (hi : X.N[i]? = some x := by rfl) (hx : Loc X.env.scope x := by first | exact .inl rfl | exact .inr rfl) (hs : swapsWith e (some (.Name x pos')) pos.line X.env = pure false := by rfl) (hf : X.fn x = true ∨ X.env.scope.names.lookup x = some .local := by first | exact .inl rfl | exact .inr rfl | assumption) :
    PDS X (bs X CR E W) (.Assign [.Name x pos'] e pos) (dSet i w) := by
  refine (ps_set hN hi hx he hs hf).imp fun Dn σ H h => ?_
  obtain ⟨P, δ, M, Dd, hS, g, x, w, k⟩ := h
  exact ⟨P, δ, M, _, hS, g, x, w, fun v H1 ⟨d, M1, z1, g1, r1, q⟩ => k.nx _ H1 ⟨_, M1, z1, g1, (hS.mono z1).set r1, q⟩⟩
theorem s_asg {tg : Expr} {gd : DG} (he : PD X (bs X CR E W) e w) (hg : PDG X (bs X CR E W) tg gd) (hs : swapsWithSole [tg] e pos.line X.env = pure false := by rfl) (hw : swappedStores [tg] e X.env = pure none := by rfl)
    (h1 : (assignEach [tg] X.env).map (·.2) = [assign tg X.env] := by rfl) : PDS X (bs X CR E W) (.Assign [tg] e pos) (dAsg w gd) := by
  refine (ps_asg he hg hs hw h1).imp fun Dn σ H h => ?_
  obtain ⟨P, δ, M, Dd, hS, g, x, w, k⟩ := h
  exact ⟨P, δ, M, _, hS, g, x, w, fun v H1 ⟨d, M1, z1, g1, r1, q⟩ => ⟨P, d, δ, M1, _, r1, hS.mono z1, g1, x.trans z1, q, fun σ' H' l => k.nx σ' H' (l.trans z1)⟩⟩
theorem s_expr (he : PD X (bs X CR E W) e w) (hs : swapsWith e none pos.line X.env = pure false := by rfl) : PDS X (bs X CR E W) (.Expr e pos) (dDrop w) := by
  refine (ps_expr he hs).imp fun Dn σ H h => ?_
  obtain ⟨P, δ, M, Dd, hS, g, x, w, k⟩ := h
  exact ⟨P, δ, M, _, hS, g, x, w, fun v H1 ⟨d, M1, z1, g1, r1, q⟩ => k.nx _ H1 ⟨δ, M1, z1, g1, hS.mono z1, q⟩⟩
theorem s_ret (he : PD X (bs X CR E W) e w) : PDS X (bs X CR E W) (.Return (some e) pos) (dRet w) := by
  refine (ps_ret he).imp fun Dn σ H h => ?_
  obtain ⟨P, δ, M, Dd, hS, g, x, w, k⟩ := h
  exact ⟨P, δ, M, _, hS, g, x, w, k.rt⟩
theorem s_retF (he : PD X (bs X CR E W) e w) : PDS X (bs X CR E W) (.Return (some e) pos) (dRetF w) := by
  refine (ps_ret he).imp fun Dn σ H h => ?_
  obtain ⟨P, δ, M, Dd, hS, g, x, w, k⟩ := h
  exact ⟨P, δ, M, _, hS, g, x, w, fun v H' l => k.rt v H' (FrzQ.ok l)⟩
theorem s_retN : PDS X (bs X CR E W) (.Return none pos) dRetN := ps_retN.imp fun Dn σ H ⟨P, δ, M, Dd, hS, g, x, w, k⟩ => k.rt .non H ⟨.non, M, Fz.refl, g, rfl, w⟩
theorem s_if {c : Expr} {a b : List Stmt} {tc : DT} (hc : PDT X (bs X CR E W) c tc) (ha : PDSs X (bs X CR E W) a t) (hb : PDSs X (bs X CR E W) b u) : PDS X (bs X CR E W) (.If c a b pos) (dIf tc t u) := by
  refine (ps_if hc ha hb).imp fun Dn σ H h => ?_
  obtain ⟨P, δ, M, Dd, hS, g, x, w, k⟩ := h
  refine ⟨P, δ, M, _, hS, g, x, w, fun c H1 M1 z1 g1 q => ?_⟩
  cases c with
  | true => exact ⟨P, δ, M1, Dd, hS.mono z1, g1, x.trans z1, q, k.trans z1⟩
  | false => exact ⟨P, δ, M1, Dd, hS.mono z1, g1, x.trans z1, q, k.trans z1⟩
/-! ### targets -/
def gNm (i : Nat) : DG := fun d δ M Q => Q (δ.set i (some d)) M
theorem g_nm {i : Nat} {x : Str} (hN : X.N.Nodup) (hi : X.N[i]? = some x := by rfl) (hx : Loc X.env.scope x := by first | exact .inl rfl | exact .inr rfl) (hf : X.fn x = true ∨ X.env.scope.names.lookup x = some .local := by first | exact .inl rfl | exact .inr rfl | assumption) : PDG X (bs X CR E W) (.Name x pos) (gNm i) := by
  refine (pg_name hN hi hx hf).imp fun v σ H Q h => ?_
  obtain ⟨P, d, δ, M, Qd, r, hS, g, x, q, k⟩ := h
  exact k _ H ⟨_, M, Fz.refl, g, hS.set r, q⟩
/-- several targets: a tuple's, a list's items -/
abbrev DGs := List D → DS0 → Mem → (DS0 → Mem → Prop) → Prop
def lGs (B : Bs) (w : DGs) : TGs := fun vs σ H Q => ∃ P ds δ M Qd, Reps ⟨B.K, B.CR, P⟩ H M ds vs ∧ RepS ⟨B.K, B.CR, P⟩ H M δ σ ∧ Good ⟨B.K, B.CR, P⟩ H M ∧ XL ⟨B.K, B.CR, P⟩ H M B.E B.W ∧ w ds δ M Qd ∧ ∀ σ' H', LfS ⟨B.K, B.CR, P⟩ H M Qd σ' H' → Q σ' H'
def gsNil : DGs := fun ds δ M Q => ds = [] ∧ Q δ M
def gsCons (g : DG) (t : DGs) : DGs := fun ds δ M Q => ∃ d r, ds = d :: r ∧ g d δ M fun δ1 M1 => t r δ1 M1 Q
theorem _root_.L2.PGs.imp {X : Cx} {e : List Expr} {t t' : TGs} (h : PGs X e t) (i : ∀ v σ H Q, t' v σ H Q → t v σ H Q) : PGs X e t' := ⟨fun p s σ H v u Q I r q => h.run p s σ H v u Q I r (i v σ H Q q)⟩
abbrev PDGs (X : Cx) (B : Bs) (es : List Expr) (w : DGs) : Prop := PGs X es (lGs B w)
theorem gs_nil : PDGs X (bs X CR E W) [] gsNil := by
  refine PGs.imp pgs_nil fun vs σ H Q h => ?_
  obtain ⟨P, d, δ, M, Qd, r, hS, g, x, ⟨e, q⟩, k⟩ := h
  subst e
  exact ⟨r, k σ H ⟨δ, M, Fz.refl, g, hS, q⟩⟩
theorem gs_cons {e : Expr} {es : List Expr} {gd : DG} {t : DGs} (h1 : PDG X (bs X CR E W) e gd) (h2 : PDGs X (bs X CR E W) es t)
    (hs : (assignEach (e :: es) X.env).map (·.2) = assign e X.env :: (assignEach es X.env).map (·.2) := by rfl) : PDGs X (bs X CR E W) (e :: es) (gsCons gd t) := by
  refine PGs.imp (pgs_cons h1 h2 hs) fun vs σ H Q h => ?_
  obtain ⟨P, ds, δ, M, Qd, r, hS, g, x, ⟨d, rr, e, q⟩, k⟩ := h
  subst e
  obtain ⟨v, vr, rfl, r1, r2⟩ := r
  exact ⟨v, vr, rfl, P, d, δ, M, _, r1, hS, g, x, q, fun σ' H' ⟨δ', M', z, g', hS', q'⟩ => ⟨P, rr, δ', M', _, r2.mono z, hS', g', x.trans z, q', fun σ2 H2 l => k σ2 H2 (l.trans z)⟩⟩
def gTu (n : Nat) (t : DGs) : DG := fun d δ M Q => ∃ xs, d = .tup xs ∧ xs.length = n ∧ t xs δ M Q
theorem g_tu {es : List Expr} {k : Nat} {t : DGs} {n : Nat} (hc : X.calm = true) (h : PDGs X (bs X CR E W) es t)
    (hn : (assignEach es X.env).length = n := by rfl) (hst : (assignEach es X.env).findIdx? (·.1) = none := by rfl) : PDG X (bs X CR E W) (.Tuple es k pos) (gTu n t) := by
  refine (pg_tup hc h hn hst).imp fun v σ H Q h => ?_
  obtain ⟨P, d, δ, M, Qd, r, hS, g, x, ⟨xs, e, hl, q⟩, k⟩ := h
  subst e
  obtain ⟨a, vs, rfl, f, rs⟩ := r
  exact ⟨a, vs, rfl, f.sq, by rw [← rs.length]; exact hl, P, xs, δ, M, Qd, rs, hS, g, x, q, k⟩
/-- o[i] = v of a list of the memory -/
def gSb (wo wi : DE) : DG := fun v δ M Q => wo δ M fun o M1 => wi δ M1 fun i M2 => ∃ p xs k j, o = .ref p ∧ i = .int k ∧ M2 p = some (.lst xs) ∧ ixN xs.length k = some j ∧ Q δ (mput M2 p (.lst (xs.set j v)))
theorem g_sb {o i : Expr} {wo wi : DE} (ho : PD X (bs X CR E W) o wo) (hi : PD X (bs X CR E W) i wi)
    (ha : ∀ v, assign (.Subscript o i pos) X.env v = (do
      let ov ← holding [v] (eval o X.env)
      let iv ← holding [v, ov] (eval i X.env)
      standAt pos
      holding [v, ov, iv] (setItem ov iv v)
      release [v, ov, iv] []) := by intro _; rfl) : PDG X (bs X CR E W) (.Subscript o i pos) (gSb wo wi) := by
  refine (pg_sub ho hi set_list ha).imp fun v σ H Q h => ?_
  obtain ⟨P, d, δ, M, Qd, r, hS, g, x, q, k⟩ := h
  refine ⟨P, δ, M, _, hS, g, x, q, fun vo H1 ⟨o', M1, z1, g1, r1, q1⟩ => ⟨P, δ, M1, _, hS.mono z1, g1, x.trans z1, q1, fun vi H2 ⟨i', M2, z2, g2, r2, p, xs, kk, j, eo, ei, em, ix, q2⟩ => ?_⟩⟩
  subst eo; subst ei
  obtain ⟨vs, e1, rs⟩ := g2.at_ p _ em
  have z3 : Fz ⟨X.K, CR, P⟩ H2 M2 (upd H2 p (.lst (vs.set j v))) (mput M2 p (.lst (xs.set j d))) := fz_put g2 em
  refine ⟨p, vs, kk, j, (show vo = .ref p from r1), r2, e1, by rw [← rs.length]; exact ix, ?_⟩
  have rd := ((r.mono z1).mono z2)
  exact k σ _ ⟨δ, _, (z1.trans z2).trans z3, good_put g2 (g2.noP em) z3 ⟨_, upd_same, (Reps.set rd j rs).mono z3⟩, ((hS.mono z1).mono z2).mono z3, q2⟩
end
open PySem PySem.Spec PyProof.Rows L2 RZ
/-- from one view to another: all that is told by value is told by value there -/
structure Cv (O : Own) (H : Hp) (M : Mem) (O' : Own) (H' : Hp) (M' : Mem) : Prop where
  k : O'.K = O.K
  c : O'.CR = O.CR
  st : ∀ a o, Fre O M a → H a = some o → H' a = some o ∧ Fre O' M' a
theorem rd_cv {O O' H M H' M'} {a : Addr} {u : HO} (z : Cv O H M O' H' M') (m : Fre O M a) (r : Rd H a u) : Fre O' M' a ∧ Rd H' a u := by
  rcases r with r | ⟨o, r⟩
  · exact ⟨(z.st a _ m r).2, .inl (z.st a _ m r).1⟩
  · exact ⟨(z.st a _ m r).2, .inr ⟨o, (z.st a _ m r).1⟩⟩
section
variable {O O' : Own} {H H' : Hp} {M M' : Mem}
mutual
theorem Rep.cv (z : Cv O H M O' H' M') : ∀ {d : D} {v : V}, Rep O H M d v → Rep O' H' M' d v
  | .non, _, h => h
  | .bl _, _, h => h
  | .int _, _, h => h
  | .str _, _, h => h
  | .ref _, _, h => h
  | .ty _, _, h => h
  | .rat q, v, h => by
    obtain ⟨a, dx, e, m, h⟩ := h
    exact ⟨a, dx, e, (z.st a _ m h).2, by rw [z.c]; exact (z.st a _ m h).1⟩
  | .tup xs, v, h => by
    obtain ⟨a, vs, e, f, r⟩ := h
    exact ⟨a, vs, e, ⟨(z.st a _ f.1 f.2).2, (z.st a _ f.1 f.2).1⟩, Reps.cv z r⟩
  | .lst xs, v, h => by
    obtain ⟨a, vs, e, f, r⟩ := h
    exact ⟨a, vs, e, ⟨(z.st a _ f.1 f.2).2, (z.st a _ f.1 f.2).1⟩, Reps.cv z r⟩
  | .scr xs, v, h => by
    obtain ⟨a, vs, e, f, r⟩ := h
    exact ⟨a, vs, e, f.elim (fun f => .inl (rd_cv z f.1 f.2)) (fun f => .inr (by rw [z.k]; exact f)), Reps.cv z r⟩
  | .obj C ns xs, v, h => by
    obtain ⟨a, dx, vs, e, m, h, l, r⟩ := h
    exact ⟨a, dx, vs, e, (z.st a _ m h).2, (z.st a _ m h).1, l, Reps.cv z r⟩
theorem Reps.cv (z : Cv O H M O' H' M') : ∀ {ds : List D} {vs : List V}, Reps O H M ds vs → Reps O' H' M' ds vs
  | [], _, h => h
  | d :: ds, vs, h => by
    obtain ⟨v, r, e, h1, h2⟩ := h
    exact ⟨v, r, e, Rep.cv z h1, Reps.cv z h2⟩
end
theorem RepO.cv (z : Cv O H M O' H' M') {a : Addr} {o : MO} (h : ∀ u, H a = some u → H' a = some u) (r : RepO O H M a o) : RepO O' H' M' a o := by
  cases o with
  | lst ds => obtain ⟨vs, e, r⟩ := r; exact ⟨vs, h _ e, r.cv z⟩
  | ins C ns ds => obtain ⟨dx, vs, e, l, r⟩ := r; exact ⟨dx, vs, h _ e, l, r.cv z⟩
  | dic ks ds => obtain ⟨vs, e, l, r⟩ := r; exact ⟨vs, h _ e, l, r.cv z⟩
theorem RepS.cv (z : Cv O H M O' H' M') {δ : DS0} {σ : L2.St} (r : RepS O H M δ σ) : RepS O' H' M' δ σ := ⟨r.1, fun i d e => let ⟨v, h, q⟩ := r.2 i d e; ⟨v, h, q.cv z⟩⟩
end
theorem FL.cv {O O' H H' M M'} (z : Cv O H M O' H' M') {a : Addr} {vs : List V} (f : FL O H M a vs) : FL O' H' M' a vs := ⟨(z.st a _ f.1 f.2).2, (z.st a _ f.1 f.2).1⟩
theorem FT.cv {O O' H H' M M'} (z : Cv O H M O' H' M') {a : Addr} {vs : List V} (f : FT O H M a vs) : FT O' H' M' a vs := ⟨(z.st a _ f.1 f.2).2, (z.st a _ f.1 f.2).1⟩
theorem FS.cv {O O' H H' M M'} (z : Cv O H M O' H' M') {a : Addr} {vs : List V} (f : FS O H M a vs) : FS O' H' M' a vs := f.elim (fun f => .inl (rd_cv z f.1 f.2)) (fun f => .inr (by rw [z.k]; exact f))
theorem Fz.cv {O H M H' M'} (z : Fz O H M H' M') : Cv O H M O H' M' := ⟨rfl, rfl, fun a o m e => ⟨(z.st a o m e).1, (z.st a o m e).2, m.2⟩⟩
/-! ### what a loop walks, over data -/
structure WalkD (O : Own) (J : It) (H0 : Hp) (M0 : Mem) (xs : List D) (chk : Mem → Prop) : Prop where
  goes : ∀ i O' H M, i < xs.length → Cv O H0 M0 O' H M → Good O' H M → chk M → J.go i H
  stops : ∀ O' H M, Cv O H0 M0 O' H M → Good O' H M → chk M → J.stop xs.length H
  yields : ∀ i O' H M d v H', xs[i]? = some d → Cv O H0 M0 O' H M → Good O' H M → chk M → J.yld i H v H' → Fz O' H M H' M ∧ Good O' H' M ∧ Rep O' H' M d v
abbrev DI := DS0 → Mem → (List D → (Mem → Prop) → Mem → Prop) → Prop
def lI (B : Bs) (w : DI) : TI := fun σ H R => ∃ P δ M Rd, RepS ⟨B.K, B.CR, P⟩ H M δ σ ∧ Good ⟨B.K, B.CR, P⟩ H M ∧ XL ⟨B.K, B.CR, P⟩ H M B.E B.W ∧ w δ M Rd ∧
  ∀ J H' xs chk M', Fz ⟨B.K, B.CR, P⟩ H M H' M' → Good ⟨B.K, B.CR, P⟩ H' M' → WalkD ⟨B.K, B.CR, P⟩ J H' M' xs chk → Rd xs chk M' → R J H'
abbrev PDI (X : Cx) (B : Bs) (tg it : Expr) (w : DI) : Prop := PI X tg it (lI B w)
theorem _root_.L2.PI.imp {X : Cx} {tg e : Expr} {t t' : TI} (h : PI X tg e t) (i : ∀ σ H R, t' σ H R → t σ H R) : PI X tg e t' := ⟨fun p s σ H R I q => h.run p s σ H R I (i σ H R q)⟩
def always : Mem → Prop := fun _ => True
/-- the items of a thing that is walked as it stands -/
def ItemsD : D → Mem → (List D → (Mem → Prop) → Prop) → Prop
  | .tup xs, _, k => k xs always
  | .lst xs, _, k => k xs always
  | .scr xs, _, k => k xs always
  | .ref p, M, k => ∃ xs, M p = some (.lst xs) ∧ k xs fun M' => M' p = some (.lst xs)
  | .str z, _, k => k (z.cps.toList.map fun c => .str ⟨#[c]⟩) always
  | _, _, _ => False
def dIt (w : DE) : DI := fun δ M R => w δ M fun d M1 => ItemsD d M1 fun xs chk => R xs chk M1
theorem walkD_list {O : Own} {H0 M0} {a : Addr} {vs : List V} {xs : List D} (f : FS O H0 M0 a vs) (r : Reps O H0 M0 xs vs) : WalkD O (Itl O.K a) H0 M0 xs always where
  goes := fun i O' H M hi z g _ => by
    have hl : i < vs.length := by rw [← r.length]; exact hi
    exact ⟨vs, vs[i], (z.k ▸ (f.cv z).sq), List.getElem?_eq_getElem hl⟩
  stops := fun O' H M z g _ => ⟨vs, (z.k ▸ (f.cv z).sq), by rw [r.length]; exact Nat.le_refl _⟩
  yields := fun i O' H M d v H' hd z g _ y => by
    obtain ⟨rfl, y⟩ := y
    have e := y vs (z.k ▸ (f.cv z).sq)
    obtain ⟨d', e1, r1⟩ := (r.cv z).getV e
    rw [hd] at e1; cases e1
    exact ⟨Fz.refl, g, r1⟩
theorem walkD_tup {O : Own} {H0 M0} {a : Addr} {vs : List V} {xs : List D} (f : FT O H0 M0 a vs) (r : Reps O H0 M0 xs vs) : WalkD O (Itt O.K a) H0 M0 xs always where
  goes := fun i O' H M hi z g _ => by
    have hl : i < vs.length := by rw [← r.length]; exact hi
    exact ⟨vs, vs[i], (z.k ▸ (f.cv z).sq), List.getElem?_eq_getElem hl⟩
  stops := fun O' H M z g _ => ⟨vs, (z.k ▸ (f.cv z).sq), by rw [r.length]; exact Nat.le_refl _⟩
  yields := fun i O' H M d v H' hd z g _ y => by
    obtain ⟨rfl, y⟩ := y
    have e := y vs (z.k ▸ (f.cv z).sq)
    obtain ⟨d', e1, r1⟩ := (r.cv z).getV e
    rw [hd] at e1; cases e1
    exact ⟨Fz.refl, g, r1⟩
theorem walkD_ref {O : Own} {H0 M0} {p : Addr} {xs : List D} : WalkD O (Itl O.K p) H0 M0 xs (fun M' => M' p = some (.lst xs)) where
  goes := fun i O' H M hi z g c => by
    obtain ⟨vs, e, r⟩ := g.at_ p _ c
    have hl : i < vs.length := by rw [← r.length]; exact hi
    exact ⟨vs, vs[i], .of e, List.getElem?_eq_getElem hl⟩
  stops := fun O' H M z g c => by
    obtain ⟨vs, e, r⟩ := g.at_ p _ c
    exact ⟨vs, .of e, by rw [r.length]; exact Nat.le_refl _⟩
  yields := fun i O' H M d v H' hd z g c y => by
    obtain ⟨rfl, y⟩ := y
    obtain ⟨vs, e, r⟩ := g.at_ p _ c
    obtain ⟨d', e1, r1⟩ := r.getV (y vs (.of e))
    rw [hd] at e1; cases e1
    exact ⟨Fz.refl, g, r1⟩
theorem walkD_str {O : Own} {H0 M0} {z : Str} : WalkD O (Its z) H0 M0 (z.cps.toList.map fun c => D.str ⟨#[c]⟩) always where
  goes := fun i O' H M hi _ g _ => by
    show i < z.cps.size
    simpa using hi
  stops := fun O' H M _ g _ => by simp [Its]
  yields := fun i O' H M d v H' hd _ g _ y => by
    obtain ⟨rfl, c, hc, rfl⟩ := y
    have e : (z.cps.toList.map fun c => D.str ⟨#[c]⟩)[i]? = some (.str ⟨#[c]⟩) := by
      rw [List.getElem?_map, Array.getElem?_toList, hc] <;> rfl
    rw [e] at hd; cases hd
    exact ⟨Fz.refl, g, rfl⟩
theorem walkD_range {O : Own} {H0 M0} {lo : Int} {n : Nat} : WalkD O (Itr lo n) H0 M0 ((List.range n).map fun (i : Nat) => D.int (lo + (i : Int))) always where
  goes := fun i O' H M hi _ g _ => by
    show i < n
    simpa using hi
  stops := fun O' H M _ g _ => by simp [Itr]
  yields := fun i O' H M d v H' hd _ g _ y => by
    obtain ⟨rfl, rfl⟩ := y
    have hi : i < n := by
      have := (List.getElem?_eq_some_iff.mp hd).1
      simpa using this
    rw [List.getElem?_map, List.getElem?_range hi] at hd
    cases hd
    exact ⟨Fz.refl, g, rfl⟩
def pairsD : List D → List D → List D
  | x :: xs, y :: ys => .tup [x, y] :: pairsD xs ys
  | _, _ => []
theorem pairsD_length : ∀ xs ys, (pairsD xs ys).length = min xs.length ys.length
  | [], ys => by simp [pairsD]
  | x :: xs, [] => by simp [pairsD]
  | x :: xs, y :: ys => by simp [pairsD, pairsD_length xs ys]
theorem pairsD_get : ∀ {xs ys : List D} {i : Nat} {d : D}, (pairsD xs ys)[i]? = some d → ∃ x y, xs[i]? = some x ∧ ys[i]? = some y ∧ d = .tup [x, y]
  | [], ys, i, d, h => by simp [pairsD] at h
  | x :: xs, [], i, d, h => by simp [pairsD] at h
  | x :: xs, y :: ys, 0, d, h => by simp [pairsD] at h; exact ⟨x, y, rfl, rfl, h.symm⟩
  | x :: xs, y :: ys, i + 1, d, h => by
    simp [pairsD] at h
    simpa using pairsD_get h
theorem pair_new {O : Own} {H M} {T : Addr} {x y : D} {u v : V} (g : Good O H M) (hT : H T = none) (rx : Rep O H M x u) (ry : Rep O H M y v) : Fz O H M (upd H T (.tup [u, v])) M ∧ Good O (upd H T (.tup [u, v])) M ∧ Rep O (upd H T (.tup [u, v])) M (.tup [x, y]) (.ref T) :=
  have z := fz_new (o := .tup [u, v]) g hT
  ⟨z, good_new g hT, T, [u, v], rfl, ⟨g.none hT, upd_same⟩, u, [v], rfl, rx.mono z, v, [], rfl, ry.mono z, rfl⟩
theorem walkD_zipL {O : Own} {H0 M0} {a b : Addr} {vs ws : List V} {xs ys : List D} (fa : ∀ O' H M, Cv O H0 M0 O' H M → Good O' H M → SqL O.K H a vs ∧ Reps O' H M xs vs) (fb : ∀ O' H M, Cv O H0 M0 O' H M → Good O' H M → SqL O.K H b ws ∧ Reps O' H M ys ws) (h0 : xs.length = vs.length) (h1 : ys.length = ws.length) : WalkD O (Itz O.K a b) H0 M0 (pairsD xs ys) always where
  goes := fun i O' H M hi z g _ => by
    rw [pairsD_length] at hi
    have l1 : i < vs.length := by omega
    have l2 : i < ws.length := by omega
    exact ⟨vs, ws, vs[i], ws[i], (fa O' H M z g).1, (fb O' H M z g).1, List.getElem?_eq_getElem l1, List.getElem?_eq_getElem l2⟩
  stops := fun O' H M z g _ => ⟨vs, ws, (fa O' H M z g).1, (fb O' H M z g).1, by rw [pairsD_length]; omega⟩
  yields := fun i O' H M d v H' hd z g _ y => by
    obtain ⟨T, u, w, rfl, hT, rfl, f1, f2⟩ := y
    obtain ⟨x, y, hx, hy, rfl⟩ := pairsD_get hd
    obtain ⟨d1, e1, r1⟩ := (fa O' H M z g).2.getV (f1 vs (fa O' H M z g).1)
    obtain ⟨d2, e2, r2⟩ := (fb O' H M z g).2.getV (f2 ws (fb O' H M z g).1)
    rw [hx] at e1; cases e1
    rw [hy] at e2; cases e2
    exact pair_new g hT r1 r2
theorem walkD_zipT {O : Own} {H0 M0} {a b : Addr} {vs ws : List V} {xs ys : List D} (fa : ∀ O' H M, Cv O H0 M0 O' H M → Good O' H M → SqT O.K H a vs ∧ Reps O' H M xs vs) (fb : ∀ O' H M, Cv O H0 M0 O' H M → Good O' H M → SqT O.K H b ws ∧ Reps O' H M ys ws) (h0 : xs.length = vs.length) (h1 : ys.length = ws.length) : WalkD O (ItzT O.K a b) H0 M0 (pairsD xs ys) always where
  goes := fun i O' H M hi z g _ => by
    rw [pairsD_length] at hi
    have l1 : i < vs.length := by omega
    have l2 : i < ws.length := by omega
    exact ⟨vs, ws, vs[i], ws[i], (fa O' H M z g).1, (fb O' H M z g).1, List.getElem?_eq_getElem l1, List.getElem?_eq_getElem l2⟩
  stops := fun O' H M z g _ => ⟨vs, ws, (fa O' H M z g).1, (fb O' H M z g).1, by rw [pairsD_length]; omega⟩
  yields := fun i O' H M d v H' hd z g _ y => by
    obtain ⟨T, u, w, rfl, hT, rfl, f1, f2⟩ := y
    obtain ⟨x, y, hx, hy, rfl⟩ := pairsD_get hd
    obtain ⟨d1, e1, r1⟩ := (fa O' H M z g).2.getV (f1 vs (fa O' H M z g).1)
    obtain ⟨d2, e2, r2⟩ := (fb O' H M z g).2.getV (f2 ws (fb O' H M z g).1)
    rw [hx] at e1; cases e1
    rw [hy] at e2; cases e2
    exact pair_new g hT r1 r2

section
variable {X : Cx} {CR : Addr} {E : DXS} {W : WX} {pos : Pos}
theorem i_it {tg l : Expr} {w : DE} (hl : PD X (bs X CR E W) l w) : PDI X (bs X CR E W) tg l (dIt w) := by
  refine ⟨fun pins s σ H R I h => ?_⟩
  obtain ⟨P, δ, M, Rd, hS, g, x, w, k⟩ := h
  refine thn (hl.run pins s σ H (fun v H' => LfV ⟨X.K, CR, P⟩ H M _ v H') I ⟨P, δ, M, _, hS, g, x, w, fun _ _ l => l⟩) fun u s1 hh => ?_
  obtain ⟨y, H1, I1, r1, d, M1, z1, g1, rd, q⟩ := hh
  cases d with
  | tup xs =>
    obtain ⟨a, vs, rfl, f, rs⟩ := rd
    cases r1
    have hq := f.sq
    obtain ⟨its, rv, pl, hz⟩ := I1.tuple hq
    refine wpAny_pyIter_tuple (show s1.heap.IsTuple a its.toArray from pl) ⟨s1.heap.objs.size, [s1.heap.objs.size], _, _, H1, rfl, I1.kept (t' := s1.toks) (fun b o e => Heap.get?_push_of_some _ e), turn_tuple a _, ⟨_, Heap.get?_push_size _ rfl, rfl, rfl⟩, fun b hb => ?_, k _ H1 xs _ M1 z1 g1 (walkD_tup f rs) q⟩
    rw [List.mem_singleton.mp hb]
    exact I1.fpOk (Nat.le_refl _) (I1.hok.fresh (Nat.le_refl _))
  | lst xs =>
    obtain ⟨a, vs, rfl, f, rs⟩ := rd
    cases r1
    obtain ⟨its, rv, pl, hz⟩ := I1.list f.sq
    refine wpAny_pyIter_list pl.isList ⟨s1.heap.objs.size, [s1.heap.objs.size], _, _, H1, rfl, I1.kept (t' := s1.toks) (fun b o e => Heap.get?_push_of_some _ e), turn_list a _, ⟨_, Heap.get?_push_size _ rfl, rfl, rfl⟩, fun b hb => ?_, k _ H1 xs _ M1 z1 g1 (walkD_list (.inl ⟨f.1, .inl f.2⟩) rs) q⟩
    rw [List.mem_singleton.mp hb]
    exact I1.fpOk (Nat.le_refl _) (I1.hok.fresh (Nat.le_refl _))
  | scr xs =>
    obtain ⟨a, vs, rfl, f, rs⟩ := rd
    cases r1
    obtain ⟨its, rv, pl, hz⟩ := I1.list f.sq
    refine wpAny_pyIter_list pl.isList ⟨s1.heap.objs.size, [s1.heap.objs.size], _, _, H1, rfl, I1.kept (t' := s1.toks) (fun b o e => Heap.get?_push_of_some _ e), turn_list a _, ⟨_, Heap.get?_push_size _ rfl, rfl, rfl⟩, fun b hb => ?_, k _ H1 xs _ M1 z1 g1 (walkD_list f rs) q⟩
    rw [List.mem_singleton.mp hb]
    exact I1.fpOk (Nat.le_refl _) (I1.hok.fresh (Nat.le_refl _))
  | ref p =>
    rw [show y = .ref p from rd] at r1
    cases r1
    obtain ⟨xs, e, q⟩ := q
    obtain ⟨vs, e1, rs⟩ := g1.at_ p _ e
    obtain ⟨its, rv, pl, hz⟩ := I1.list (SqL.of e1)
    refine wpAny_pyIter_list pl.isList ⟨s1.heap.objs.size, [s1.heap.objs.size], _, _, H1, rfl, I1.kept (t' := s1.toks) (fun b o e => Heap.get?_push_of_some _ e), turn_list p _, ⟨_, Heap.get?_push_size _ rfl, rfl, rfl⟩, fun b hb => ?_, k _ H1 xs _ M1 z1 g1 walkD_ref q⟩
    rw [List.mem_singleton.mp hb]
    exact I1.fpOk (Nat.le_refl _) (I1.hok.fresh (Nat.le_refl _))
  | str z =>
    rw [show y = .str z from rd] at r1
    obtain ⟨t, rfl⟩ := r1
    have q2 := k _ H1 _ _ M1 z1 g1 walkD_str q
    cases ha : z.cps.all (· < 128) with
    | false => exact wpAny_pyIter_wide ha (pi_one (tk := s1.toks) I1 _ (turn_str _ z t "str_iterator" (.inr rfl)) ⟨_, Heap.get?_push_size _ rfl, rfl, rfl⟩ q2)
    | true => exact wpAny_pyIter_ascii ha (pi_one (tk := s1.toks) I1 _ (turn_str _ z t "str_ascii_iterator" (.inl rfl)) ⟨_, Heap.get?_push_size _ rfl, rfl, rfl⟩ q2)
  | _ => exact (show False from q).elim
def rngD (i j : Int) : List D := (List.range (j - i).toNat).map fun (k : Nat) => .int (i + (k : Int))
def dRng1 (t : DA) : DI := fun δ M R => t δ M fun ds M1 => ∃ j : Int, ds = [.int j] ∧ (-(2 ^ 62) ≤ j ∧ j < 2 ^ 62) ∧ R (rngD 0 j) always M1
def dRng2 (t : DA) : DI := fun δ M R => t δ M fun ds M1 => ∃ i j : Int, ds = [.int i, .int j] ∧ (-(2 ^ 62) ≤ i ∧ i < 2 ^ 62 ∧ -(2 ^ 62) ≤ j ∧ j < 2 ^ 62) ∧ R (rngD i j) always M1
theorem i_rng1 {tg a : Expr} {ta : DA} {p : Pos} (hm : X.mg "range" = none) (ha : PDA X (bs X CR E W) [a] ta) (hg : Gl X "range" := by rfl) (hs : starEach [a] X.env = [(false, eval a X.env)] := by rfl) : PDI X (bs X CR E W) tg (.Call (.Name "range" p) [a] [] pos) (dRng1 ta) := by
  refine (pi_range1 hg hm ha hs).imp fun σ H R h => ?_
  obtain ⟨P, δ, M, Rd, hS, g, x, w, k⟩ := h
  refine ⟨P, δ, M, _, hS, g, x, w, fun vs H1 ds M1 z1 g1 rs q => ?_⟩
  obtain ⟨j, rfl, ⟨h1, h2⟩, q⟩ := q
  obtain ⟨v, r, rfl, e, e2⟩ := rs
  rw [show r = [] from e2, show v = .int j from e]
  refine ⟨j, rfl, h1, h2, k _ H1 (rngD 0 j) _ M1 z1 g1 ?_ q⟩
  rw [show j.toNat = (j - 0).toNat by rw [Int.sub_zero]]
  exact walkD_range
theorem i_rng2 {tg a b : Expr} {ta : DA} {p : Pos} (hm : X.mg "range" = none) (ha : PDA X (bs X CR E W) [a, b] ta) (hg : Gl X "range" := by rfl) (hs : starEach [a, b] X.env = [(false, eval a X.env), (false, eval b X.env)] := by rfl) (hs2 : starEach [b] X.env = [(false, eval b X.env)] := by rfl) : PDI X (bs X CR E W) tg (.Call (.Name "range" p) [a, b] [] pos) (dRng2 ta) := by
  refine (pi_range2 hg hm ha hs hs2).imp fun σ H R h => ?_
  obtain ⟨P, δ, M, Rd, hS, g, x, w, k⟩ := h
  refine ⟨P, δ, M, _, hS, g, x, w, fun vs H1 ds M1 z1 g1 rs q => ?_⟩
  obtain ⟨i, j, rfl, hb, q⟩ := q
  obtain ⟨v, r, rfl, e, v2, r2, rfl, e2, e3⟩ := rs
  rw [show r2 = [] from e3, show v = .int i from e, show v2 = .int j from e2]
  exact ⟨i, j, rfl, hb, k _ H1 (rngD i j) _ M1 z1 g1 walkD_range q⟩
/-- what zip takes: two lists or two tuples -/
def seqL (d : D) (M : Mem) (xs : List D) : Prop := d = .lst xs
def seqT (d : D) (xs : List D) : Prop := d = .tup xs
def dZip (t : DA) : DI := fun δ M R => t δ M fun ds M1 => ∃ xs ys, (ds = [.tup xs, .tup ys] ∨ ds = [.lst xs, .lst ys]) ∧ R (pairsD xs ys) always M1
theorem i_zip {e e2 : Expr} {ta : DA} {p tpos : Pos} {elts : List Expr} {kk : Nat} (hm : X.mg "zip" = none) (ha : PDA X (bs X CR E W) [e, e2] ta) (hg : Gl X "zip" := by rfl)
    (hs : starEach [e, e2] X.env = (false, eval e X.env) :: starEach [e2] X.env := by rfl) (hpl : (backTo pos (starEach [e2] X.env)).any (·.1) = false := by rfl) :
    PDI X (bs X CR E W) (.Tuple elts kk tpos) (.Call (.Name "zip" p) [e, e2] [] pos) (dZip ta) := by
  refine (pi_zipA hg hm ha hs hpl).imp fun σ H R h => ?_
  obtain ⟨P, δ, M, Rd, hS, g, x, w, k⟩ := h
  refine ⟨P, δ, M, _, hS, g, x, w, fun vs H1 ds M1 z1 g1 rs q => ?_⟩
  obtain ⟨xs, ys, e, q⟩ := q
  rcases e with rfl | rfl
  · obtain ⟨v, r, rfl, ⟨a, va, rfl, f1, r1⟩, v2, r2, rfl, ⟨b, vb, rfl, f2, r2'⟩, e3⟩ := rs
    rw [show r2 = [] from e3]
    exact ⟨a, b, va, vb, rfl, .inr ⟨f1.sq, f2.sq, k _ H1 _ _ M1 z1 g1 (walkD_zipT (fun O' H M z g => ⟨z.k ▸ (f1.cv z).sq, r1.cv z⟩) (fun O' H M z g => ⟨z.k ▸ (f2.cv z).sq, r2'.cv z⟩) r1.length r2'.length) q⟩⟩
  · obtain ⟨v, r, rfl, ⟨a, va, rfl, f1, r1⟩, v2, r2, rfl, ⟨b, vb, rfl, f2, r2'⟩, e3⟩ := rs
    rw [show r2 = [] from e3]
    exact ⟨a, b, va, vb, rfl, .inl ⟨f1.sq, f2.sq, k _ H1 _ _ M1 z1 g1 (walkD_zipL (fun O' H M z g => ⟨z.k ▸ (f1.cv z).sq, r1.cv z⟩) (fun O' H M z g => ⟨z.k ▸ (f2.cv z).sq, r2'.cv z⟩) r1.length r2'.length) q⟩⟩
end
/-! ### for -/
def dLoop (chk : Mem → Prop) (g : DG) (body : DSt) : List D → DSt
  | [], D, δ, M => chk M ∧ D.nx δ M
  | x :: xs, D, δ, M => chk M ∧ g x δ M fun δ1 M1 => body { D with nx := dLoop chk g body xs D, ct := dLoop chk g body xs D, bk := D.nx } δ1 M1
def dFor (it : DI) (g : DG) (body : DSt) : DSt := fun D δ M => it δ M fun xs chk M1 => dLoop chk g body xs D δ M1
section
variable {X : Cx} {CR : Addr} {E : DXS} {W : WX} {pos : Pos}
theorem dLoop_chk {chk g body xs D δ M} (h : dLoop chk g body xs D δ M) : chk M := by
  cases xs with
  | nil => exact h.1
  | cons x xs => exact h.1
theorem s_for {tg iter : Expr} {body : List Stmt} {it : DI} {gd : DG} {wb : DSt} (hp : PassesOwn (model X.prog X.w) X.A X.env X.xe) (hc : X.calm = true) (hi : PDI X (bs X CR E W) tg iter it) (hg : PDG X (bs X CR E W) tg gd) (hb : PDSs X (bs X CR E W) body wb)
    (hs : ∀ x, foldedSetIterable iter X.env x = pure x := by intro _; rfl) : PDS X (bs X CR E W) (.For tg iter body [] pos) (dFor it gd wb) := by
  refine (ps_for hp hc hi hg hb hs).imp fun Dn σ H h => ?_
  obtain ⟨P, δ, M, Dd, hS, g, x, w, k⟩ := h
  refine ⟨P, δ, M, _, hS, g, x, w, fun J H1 xs chk M1 z1 g1 W q => ?_⟩
  refine ⟨fun i m σ' H' => m = xs.length - i ∧ i ≤ xs.length ∧ ∃ δ' M', Fz ⟨X.K, CR, P⟩ H1 M1 H' M' ∧ RepS ⟨X.K, CR, P⟩ H' M' δ' σ' ∧ Good ⟨X.K, CR, P⟩ H' M' ∧ dLoop chk gd wb (xs.drop i) Dd δ' M',
    ⟨xs.length, by simp, Nat.zero_le _, δ, M1, Fz.refl, hS.mono z1, g1, by simpa using q⟩, fun i m σ' H' hw => ?_⟩
  obtain ⟨rfl, hi', δ', M', z, hS', g', hl⟩ := hw
  have hck := dLoop_chk hl
  by_cases hlt : i < xs.length
  · rw [List.drop_eq_getElem_cons hlt] at hl
    refine .inr ⟨W.goes i _ H' M' hlt z.cv g' hck, fun σ2 H2 => ∃ δ2 M2, Fz ⟨X.K, CR, P⟩ H1 M1 H2 M2 ∧ RepS ⟨X.K, CR, P⟩ H2 M2 δ2 σ2 ∧ Good ⟨X.K, CR, P⟩ H2 M2 ∧ dLoop chk gd wb (xs.drop (i + 1)) Dd δ2 M2, fun σ2 H2 hn => ⟨xs.length - (i + 1), by omega, rfl, hlt, hn⟩, fun v H2 hy => ?_⟩
    obtain ⟨z2, g2, rd⟩ := W.yields i _ H' M' _ v H2 (List.getElem?_eq_getElem hlt) z.cv g' hck hy
    refine ⟨P, xs[i], δ', M', _, rd, hS'.mono z2, g2, (x.trans z1).trans (z.trans z2), hl.2, fun σ3 H3 ⟨δ3, M3, z3, g3, hS3, q3⟩ => ?_⟩
    have zz := (z.trans z2).trans z3
    refine ⟨P, δ3, M3, _, hS3, g3, (x.trans z1).trans zz, q3, ⟨fun σ4 H4 ⟨δ4, M4, z4, g4, hS4, q4⟩ => ⟨δ4, M4, zz.trans z4, hS4, g4, q4⟩, fun v4 H4 l => k.rt v4 H4 ((l.trans zz).trans z1), fun σ4 H4 l => k.nx σ4 H4 ((l.trans zz).trans z1), fun σ4 H4 ⟨δ4, M4, z4, g4, hS4, q4⟩ => ⟨δ4, M4, zz.trans z4, hS4, g4, q4⟩⟩⟩
  · have e : i = xs.length := by omega
    subst e
    rw [List.drop_length] at hl
    exact .inl ⟨W.stops _ H' M' z.cv g' hck, k.nx σ' H' ⟨δ', M', z1.trans z, g', hS', hl.2⟩⟩
end
/-! ### list comprehensions -/
def wipeD (δ : DS0) : List Nat → DS0
  | [] => δ
  | v :: vs => (wipeD δ vs).set v none
theorem RepS.wipe {O : Own} {H M} {δ : DS0} {σ : L2.St} (r : RepS O H M δ σ) : ∀ vs : List Nat, RepS O H M (wipeD δ vs) (L2.wipe σ vs)
  | [] => r
  | v :: vs => (RepS.wipe r vs).unset
/-- a comprehension's target: it stores its own names alone -/
def CG (K : PySem.W.Frag) (CR : Addr) (vs : List Nat) (g : TG) (gd : DG) : Prop := ∀ P v d σ σ0 δ H M Qd, Rep ⟨K, CR, P⟩ H M d v → RepS ⟨K, CR, P⟩ H M δ σ → Good ⟨K, CR, P⟩ H M → L2.wipe σ vs = L2.wipe σ0 vs → gd d δ M Qd → g v σ H fun σ2 H2 => L2.wipe σ2 vs = L2.wipe σ0 vs ∧ LfS ⟨K, CR, P⟩ H M Qd σ2 H2
theorem wipe_get (σ : L2.St) : ∀ (vs : List Nat) (i : Nat), (L2.wipe σ vs)[i]? = if i ∈ vs ∧ i < σ.length then some none else σ[i]?
  | [], i => by simp [L2.wipe]
  | v :: vs, i => by
    have ih := wipe_get σ vs i
    show ((L2.wipe σ vs).set v none)[i]? = _
    rw [List.getElem?_set, wipe_length]
    by_cases h : v = i
    · subst h
      by_cases hl : v < σ.length
      · simp [hl]
      · simp [hl, List.getElem?_eq_none (Nat.le_of_not_lt hl)]
    · rw [if_neg h, ih]
      have h' : i ≠ v := fun e => h e.symm
      simp [h']
theorem wipe_set {σ : L2.St} {vs : List Nat} {j : Nat} {x : Option V} (h : j ∈ vs) : L2.wipe (σ.set j x) vs = L2.wipe σ vs := by
  apply List.ext_getElem?
  intro i
  rw [wipe_get, wipe_get, List.length_set, List.getElem?_set]
  by_cases e : j = i
  · subst e
    by_cases hl : j < σ.length
    · simp [h, hl]
    · simp [hl, List.getElem?_eq_none (Nat.le_of_not_lt hl)]
  · rw [if_neg e]
theorem wipe_wipe {σ : L2.St} {vs : List Nat} : L2.wipe (L2.wipe σ vs) vs = L2.wipe σ vs := by
  apply List.ext_getElem?
  intro i
  rw [wipe_get, wipe_get, wipe_length]
  split <;> rfl
theorem cg_nm {K CR} {vs : List Nat} {j : Nat} (h : j ∈ vs) : CG K CR vs (gName j) (gNm j) := by
  intro P v d σ σ0 δ H M Qd r hS g hw q
  exact ⟨by rw [wipe_set h]; exact hw, _, M, Fz.refl, g, hS.set r, q⟩
def CGs (K : PySem.W.Frag) (CR : Addr) (vs : List Nat) (g : TGs) (gd : DGs) : Prop := ∀ P xs ds σ σ0 δ H M Qd, Reps ⟨K, CR, P⟩ H M ds xs → RepS ⟨K, CR, P⟩ H M δ σ → Good ⟨K, CR, P⟩ H M → L2.wipe σ vs = L2.wipe σ0 vs → gd ds δ M Qd → g xs σ H fun σ2 H2 => L2.wipe σ2 vs = L2.wipe σ0 vs ∧ LfS ⟨K, CR, P⟩ H M Qd σ2 H2
theorem cgs_nil {K CR vs} : CGs K CR vs gNil gsNil := by
  intro P xs ds σ σ0 δ H M Qd r hS g hw ⟨e, q⟩
  subst e
  exact ⟨r, hw, δ, M, Fz.refl, g, hS, q⟩
theorem cgs_cons {K CR vs} {g1 : TG} {gd : DG} {t : TGs} {td : DGs} (h1 : CG K CR vs g1 gd) (mono : ∀ v σ H Q Q', (∀ σ H, Q σ H → Q' σ H) → g1 v σ H Q → g1 v σ H Q') (h2 : CGs K CR vs t td) (monos : ∀ v σ H Q Q', (∀ σ H, Q σ H → Q' σ H) → t v σ H Q → t v σ H Q') : CGs K CR vs (gCons g1 t) (gsCons gd td) := by
  intro P xs ds σ σ0 δ H M Qd r hS g hw ⟨d, rr, e, q⟩
  subst e
  obtain ⟨v, vr, rfl, r1, r2⟩ := r
  refine ⟨v, vr, rfl, mono _ _ _ _ _ (fun σ' H' hh => ?_) (h1 P v d σ σ0 δ H M _ r1 hS g hw q)⟩
  obtain ⟨hw', δ', M', z, g', hS', q'⟩ := hh
  exact monos _ _ _ _ _ (fun σ2 H2 hh => ⟨hh.1, hh.2.trans z⟩) (h2 P vr rr σ' σ0 δ' H' M' Qd (r2.mono z) hS' g' hw' q')
theorem mono_nm {j : Nat} : ∀ v σ H (Q Q' : L2.St → Hp → Prop), (∀ σ H, Q σ H → Q' σ H) → gName j v σ H Q → gName j v σ H Q' := fun v σ H Q Q' i h => i _ _ h
theorem mono_nil : ∀ v σ H (Q Q' : L2.St → Hp → Prop), (∀ σ H, Q σ H → Q' σ H) → gNil v σ H Q → gNil v σ H Q' := fun v σ H Q Q' i h => ⟨h.1, i _ _ h.2⟩
theorem mono_cons {g : TG} {t : TGs} (m : ∀ v σ H (Q Q' : L2.St → Hp → Prop), (∀ σ H, Q σ H → Q' σ H) → g v σ H Q → g v σ H Q') (ms : ∀ v σ H (Q Q' : L2.St → Hp → Prop), (∀ σ H, Q σ H → Q' σ H) → t v σ H Q → t v σ H Q') : ∀ v σ H (Q Q' : L2.St → Hp → Prop), (∀ σ H, Q σ H → Q' σ H) → gCons g t v σ H Q → gCons g t v σ H Q' := fun v σ H Q Q' i h => by
  obtain ⟨x, r, e, q⟩ := h
  exact ⟨x, r, e, m _ _ _ _ _ (fun σ1 H1 h1 => ms _ _ _ _ _ i h1) q⟩
theorem mono_tu {K : PySem.W.Frag} {n : Nat} {t : TGs} (ms : ∀ v σ H (Q Q' : L2.St → Hp → Prop), (∀ σ H, Q σ H → Q' σ H) → t v σ H Q → t v σ H Q') : ∀ v σ H (Q Q' : L2.St → Hp → Prop), (∀ σ H, Q σ H → Q' σ H) → gTup K n t v σ H Q → gTup K n t v σ H Q' := fun v σ H Q Q' i ⟨a, ws, e, f, l, q⟩ => ⟨a, ws, e, f, l, ms _ _ _ _ _ i q⟩
theorem cg_tu {K CR vs} {n : Nat} {t : TGs} {td : DGs} (h : CGs K CR vs t td) : CG K CR vs (gTup K n t) (gTu n td) := by
  intro P v d σ σ0 δ H M Qd r hS g hw ⟨xs, e, hl, q⟩
  subst e
  obtain ⟨a, ws, rfl, f, rs⟩ := r
  exact ⟨a, ws, rfl, f.sq, by rw [← rs.length]; exact hl, h P ws xs σ σ0 δ H M Qd rs hS g hw q⟩

/-- [e for target in iter if t]: from what has been made -/
def dLcL (chk : Mem → Prop) (g : DG) (tt : DT) (te : DE) (δ : DS0) : List D → List D → Mem → (List D → Mem → Prop) → Prop
  | [], acc, M, Q => chk M ∧ Q acc M
  | x :: xs, acc, M, Q => chk M ∧ acc.length < sizeLine ∧ g x δ M fun δ2 M2 => tt δ2 M2 fun b M3 => if b = true then te δ2 M3 fun y M4 => dLcL chk g tt te δ xs (acc ++ [y]) M4 Q else dLcL chk g tt te δ xs acc M3 Q
def dYes : DT := fun _ M Q => Q true M
/-- let go at once | kept for changing -/
def dLc (it : DI) (g : DG) (tt : DT) (te : DE) (vs : List Nat) : DE := fun δ M Q => it δ M fun xs chk M1 => dLcL chk g tt te (wipeD δ vs) xs [] M1 fun acc M2 => Q (.lst acc) M2
def dLcR (it : DI) (g : DG) (tt : DT) (te : DE) (vs : List Nat) : DE := fun δ M Q => it δ M fun xs chk M1 => dLcL chk g tt te (wipeD δ vs) xs [] M1 fun acc M2 => ∀ p, M2 p = none → Q (.ref p) (mput M2 p (.lst acc))
abbrev PDTs (X : Cx) (B : Bs) (ifs : List Expr) (w : DT) : Prop := PTs X ifs (lT B w)
theorem _root_.L2.PTs.imp {X : Cx} {e : List Expr} {t t' : TT} (h : PTs X e t) (i : ∀ σ H Q, t' σ H Q → t σ H Q) : PTs X e t' := ⟨fun p s σ H Q I q => h.run p s σ H Q I (i σ H Q q)⟩
theorem ts_nil {X : Cx} {CR : Addr} {E : DXS} {W : WX} : PDTs X (bs X CR E W) [] dYes := PTs.imp pts_nil fun σ H Q ⟨P, δ, M, Qd, hS, g, x, w, k⟩ => k true H M Fz.refl g w
theorem ts_one {X : Cx} {CR : Addr} {E : DXS} {W : WX} {c : Expr} {t : DT} (h : PDT X (bs X CR E W) c t) : PDTs X (bs X CR E W) [c] t := pts_one h
theorem dLcL_chk {chk g tt te δ xs acc M Q} (h : dLcL chk g tt te δ xs acc M Q) : chk M := by
  cases xs with
  | nil => exact h.1
  | cons x xs => exact h.1
/-- the same, L hidden besides -/
def hide (O : Own) (L : Addr) : Own := ⟨O.K, O.CR, fun a => O.P a ∨ a = L⟩
section
variable {O : Own} {H : Hp} {M : Mem} {L : Addr}
theorem cv_hide (h : H L = none) {o : HO} : Cv O H M (hide O L) (upd H L o) M := ⟨rfl, rfl, fun a u m e => by
  have n := ne_of_none e h
  exact ⟨by rw [upd_ne n]; exact e, m.1, fun q => q.elim m.2 n⟩⟩
theorem cv_unhide : Cv (hide O L) H M O H M := ⟨rfl, rfl, fun a u m e => ⟨e, m.1, fun q => m.2 (.inl q)⟩⟩
theorem cv_updh {o : HO} : Cv (hide O L) H M (hide O L) (upd H L o) M := ⟨rfl, rfl, fun a u m e => ⟨by rw [upd_ne fun z => m.2 (.inr z)]; exact e, m⟩⟩
theorem cv_put {o : MO} : Cv (hide O L) H M O H (mput M L o) := ⟨rfl, rfl, fun a u m e => ⟨e, by rw [mput_ne fun z => m.2 (.inr z)]; exact m.1, fun q => m.2 (.inl q)⟩⟩
theorem good_hide (g : Good O H M) (h : H L = none) {o : HO} : Good (hide O L) (upd H L o) M := ⟨fun a u m => by
  have r := g.at_ a u m
  have n : a ≠ L := fun z => r.there (z ▸ h)
  exact r.cv (cv_hide h) fun v e => by rw [upd_ne n]; exact e, fun a q => by
  by_cases n : a = L
  · subst n
    exact ⟨(g.none h).1, by rw [upd_same]; simp⟩
  · rw [upd_ne n]
    exact g.hid a (q.resolve_right n)⟩
theorem good_unhide (g : Good (hide O L) H M) : Good O H M := ⟨fun a u m => (g.at_ a u m).cv cv_unhide fun _ e => e, fun a q => g.hid a (.inl q)⟩
theorem good_updh (g : Good (hide O L) H M) {o : HO} : Good (hide O L) (upd H L o) M := ⟨fun a u m => by
  have n : a ≠ L := fun z => by
    have := (g.hid L (.inr rfl)).1
    rw [← z, m] at this; cases this
  exact (g.at_ a u m).cv cv_updh fun v e => by rw [upd_ne n]; exact e, fun a q => by
  by_cases n : a = L
  · subst n
    exact ⟨(g.hid a q).1, by rw [upd_same]; simp⟩
  · rw [upd_ne n]; exact g.hid a q⟩
theorem good_shown (g : Good (hide O L) H M) (np : ¬ O.P L) {vs : List V} {ds : List D} (h : H L = some (.lst vs)) (r : Reps (hide O L) H M ds vs) : Good O H (mput M L (.lst ds)) := ⟨fun a u m => by
  by_cases n : a = L
  · subst n
    rw [mput_same] at m; cases m
    exact ⟨vs, h, r.cv cv_put⟩
  · rw [mput_ne n] at m
    exact (g.at_ a u m).cv cv_put fun _ e => e, fun a q => by
  have n : a ≠ L := fun z => np (z ▸ q)
  rw [mput_ne n]
  exact g.hid a (.inl q)⟩
/-- since the start, L apart -/
theorem fz_past {H0 H' : Hp} {M0 M' : Mem} (z : Fz O H0 M0 H M) (h : H0 L = none) (np : ¬ O.P L) (z2 : Fz (hide O L) H M H' M') : Fz O H0 M0 H' M' := ⟨fun a u m e => by
  have n := ne_of_none e h
  obtain ⟨e1, m1⟩ := z.st a u m e
  exact z2.st a u ⟨m1, fun q => q.elim m.2 n⟩ e1, fun a q => (z2.hid a (.inl q)).trans (z.hid a q)⟩
theorem cv_past {H0 : Hp} {M0 : Mem} (z : Fz O H0 M0 H M) (h : H0 L = none) (np : ¬ O.P L) : Cv O H0 M0 (hide O L) H M := ⟨rfl, rfl, fun a u m e =>
  ⟨(z.st a u m e).1, (z.st a u m e).2, fun q => q.elim m.2 (ne_of_none e h)⟩⟩
theorem fz_updh {H0 : Hp} {M0 : Mem} (z : Fz O H0 M0 H M) (h : H0 L = none) (np : ¬ O.P L) {o : HO} : Fz O H0 M0 (upd H L o) M := ⟨fun a u m e => by
  have n := ne_of_none e h
  rw [upd_ne n]
  exact z.st a u m e, fun a q => by
  have n : a ≠ L := fun e => np (e ▸ q)
  rw [upd_ne n]
  exact z.hid a q⟩
end
theorem lcE {X : Cx} {CR : Addr} {E : DXS} {W : WX} {it : DI} {g : TG} {gd : DG} {tt : DT} {te : DE} {vs : List Nat} {F : List D → Mem → DK → Prop}
    (hg : CG X.K CR vs g gd) (mono : ∀ v σ H (Q Q' : L2.St → Hp → Prop), (∀ σ H, Q σ H → Q' σ H) → g v σ H Q → g v σ H Q')
    (hF : ∀ (O : Own) (H0 H : Hp) (M : Mem) (L : Addr) (us : List V) (acc : List D) (Qd : DK), H0 L = none → ¬ O.P L → Good (hide O L) H M → H L = some (.lst us) → Reps (hide O L) H M acc us → F acc M Qd → ∃ d M', (∀ H0 M0, Fz O H0 M0 H M → H0 L = none → Fz O H0 M0 H M') ∧ Good O H M' ∧ Rep O H M' d (.ref L) ∧ Qd d M') :
    ∀ σ H Q, lE (bs X CR E W) (fun δ M Q => it δ M fun xs chk M1 => dLcL chk gd tt te (wipeD δ vs) xs [] M1 fun acc M2 => F acc M2 Q) σ H Q → tLc (lI (bs X CR E W) it) g (lT (bs X CR noE noW) tt) (lE (bs X CR noE noW) te) vs σ H Q := by
  intro σ H Q h
  obtain ⟨P, δ, M, Qd, hS, g0, x, w, k⟩ := h
  refine ⟨P, δ, M, _, hS, g0, x, w, fun J H1 xs chk M1 z1 g1 W q => fun L hL => ?_⟩
  have np : ¬ P L := (g1.none hL).2
  refine ⟨fun i m H' => m = xs.length - i ∧ i ≤ xs.length ∧ ∃ M' us acc, Fz ⟨X.K, CR, P⟩ H1 M1 H' M' ∧ Good (hide ⟨X.K, CR, P⟩ L) H' M' ∧ RepS (hide ⟨X.K, CR, P⟩ L) H' M' (wipeD δ vs) (L2.wipe σ vs) ∧ H' L = some (.lst us) ∧ Reps (hide ⟨X.K, CR, P⟩ L) H' M' acc us ∧
      dLcL chk gd tt te (wipeD δ vs) (xs.drop i) acc M' (fun acc M2 => F acc M2 Qd), ⟨xs.length, by simp, Nat.zero_le _, M1, [], [], fz_new g1 hL, good_hide g1 hL, ((hS.mono z1).cv (cv_hide hL)).wipe vs, upd_same, rfl, by simpa using q⟩, fun i m H' hw => ?_⟩
  obtain ⟨rfl, hi', M', us, acc, z, g', hS', hLs, ra, hl⟩ := hw
  have hck := dLcL_chk hl
  have zc := cv_past z hL (g1.none hL).2
  by_cases hlt : i < xs.length
  · rw [List.drop_eq_getElem_cons hlt] at hl
    obtain ⟨_, hz, hl⟩ := hl
    refine .inr ⟨W.goes i _ H' M' hlt zc g' hck, fun H2 => ∃ M2 us acc, Fz ⟨X.K, CR, P⟩ H1 M1 H2 M2 ∧ Good (hide ⟨X.K, CR, P⟩ L) H2 M2 ∧ RepS (hide ⟨X.K, CR, P⟩ L) H2 M2 (wipeD δ vs) (L2.wipe σ vs) ∧ H2 L = some (.lst us) ∧ Reps (hide ⟨X.K, CR, P⟩ L) H2 M2 acc us ∧
      dLcL chk gd tt te (wipeD δ vs) (xs.drop (i + 1)) acc M2 (fun acc M2 => F acc M2 Qd), fun H2 hn => ⟨xs.length - (i + 1), by omega, rfl, hlt, hn⟩, fun v H2 hy => ?_⟩
    obtain ⟨z2, g2, rd⟩ := W.yields i _ H' M' _ v H2 (List.getElem?_eq_getElem hlt) zc g' hck hy
    refine hg _ v _ _ σ (wipeD δ vs) H2 M' _ rd (hS'.mono z2) g2 wipe_wipe hl |> mono _ _ _ _ _ fun σ3 H3 hh => ?_
    obtain ⟨hw3, δ3, M3, z3, g3, hS3, q3⟩ := hh
    refine ⟨hw3, _, δ3, M3, _, hS3, g3, XL.no, q3, fun b H4 M4 z4 g4 q4 => ?_⟩
    have zz := (z2.trans z3).trans z4
    cases b with
    | false => exact ⟨M4, us, acc, fz_past z hL np zz, g4, hS'.mono zz, (zz.hid L (.inr rfl)).trans hLs, ra.mono zz, q4⟩
    | true =>
      refine ⟨_, δ3, M4, _, hS3.mono z4, g4, XL.no, q4, fun v5 H5 ⟨d5, M5, z5, g5, r5, q5⟩ => ?_⟩
      have z6 := zz.trans z5
      refine ⟨us, (z6.hid L (.inr rfl)).trans hLs, by rw [← ra.length]; exact hz, M5, us ++ [v5], acc ++ [d5], fz_updh (fz_past z hL np z6) hL np, good_updh (O := ⟨X.K, CR, P⟩) g5, (hS'.mono z6).cv (cv_updh (O := ⟨X.K, CR, P⟩)), upd_same, ((ra.mono z6).append (Reps.one r5)).cv (cv_updh (O := ⟨X.K, CR, P⟩)), q5⟩
  · have e : i = xs.length := by omega
    subst e
    rw [List.drop_length] at hl
    refine .inl ⟨W.stops _ H' M' zc g' hck, ?_⟩
    obtain ⟨d, M2, f2, g2, r2, q2⟩ := hF ⟨X.K, CR, P⟩ H1 H' M' L us acc Qd hL np g' hLs ra hl.2
    exact k _ H' ⟨d, M2, z1.trans (f2 H1 M1 z hL), g2, r2, q2⟩
theorem fin_lst : ∀ (O : Own) (H0 H : Hp) (M : Mem) (L : Addr) (us : List V) (acc : List D) (Qd : DK), H0 L = none → ¬ O.P L → Good (hide O L) H M → H L = some (.lst us) → Reps (hide O L) H M acc us → Qd (.lst acc) M → ∃ d M', (∀ H0 M0, Fz O H0 M0 H M → H0 L = none → Fz O H0 M0 H M') ∧ Good O H M' ∧ Rep O H M' d (.ref L) ∧ Qd d M' :=
  fun O H0 H M L us acc Qd h0 np g hL r q => ⟨.lst acc, M, fun _ _ z _ => z, good_unhide g, ⟨L, us, rfl, ⟨⟨(g.hid L (.inr rfl)).1, np⟩, hL⟩, r.cv cv_unhide⟩, q⟩
theorem fin_ref : ∀ (O : Own) (H0 H : Hp) (M : Mem) (L : Addr) (us : List V) (acc : List D) (Qd : DK), H0 L = none → ¬ O.P L → Good (hide O L) H M → H L = some (.lst us) → Reps (hide O L) H M acc us → (∀ p, M p = none → Qd (.ref p) (mput M p (.lst acc))) → ∃ d M', (∀ H0 M0, Fz O H0 M0 H M → H0 L = none → Fz O H0 M0 H M') ∧ Good O H M' ∧ Rep O H M' d (.ref L) ∧ Qd d M' :=
  fun O H0 H M L us acc Qd h0 np g hL r q => ⟨.ref L, mput M L (.lst acc), fun H0 M0 z h => ⟨fun a u m e => by
    have n := ne_of_none e h
    exact ⟨(z.st a u m e).1, by rw [mput_ne n]; exact (z.st a u m e).2⟩, z.hid⟩, good_shown g np hL r, rfl, q L (g.hid L (.inr rfl)).1⟩
section
variable {X : Cx} {CR : Addr} {E : DXS} {W : WX} {pos : Pos}
/-- the comprehension as a value; own: its names and their slots; g, gd: its target's two readings -/
theorem d_lc {elt tg iter : Expr} {ifs : List Expr} {scope : Scope} {own : List (Str × Nat)} {it : DI} {g : TG} {gd : DG} {tt : DT} {te : DE} (hc : X.calm = true) (hN : X.N.Nodup) (hi : PDI X (bs X CR E W) tg iter it) (ok : blkC X.N X.env.scope scope own = true)
    (hcg : CG X.K CR (own.map (·.2)) g gd) (mono : ∀ v σ H (Q Q' : L2.St → Hp → Prop), (∀ σ H, Q σ H → Q' σ H) → g v σ H Q → g v σ H Q')
    (hg : ∀ (s : Shared) (H : Hp) (C : Addr) (cl : List (Str × Addr)) (fp : List Addr), PG (X.blk s H scope (compEnvC scope cl C X.env) fp) tg g) (ht : ∀ (s : Shared) (H : Hp) (C : Addr) (cl : List (Str × Addr)) (fp : List Addr), PDTs (X.blk s H scope (compEnvC scope cl C X.env) fp) (bs X CR noE noW) ifs tt)
    (he : ∀ (s : Shared) (H : Hp) (C : Addr) (cl : List (Str × Addr)) (fp : List Addr), PD (X.blk s H scope (compEnvC scope cl C X.env) fp) (bs X CR noE noW) elt te) (hs : ∀ x, foldedSetIterable iter X.env x = pure x := by intro _; rfl) :
    PD X (bs X CR E W) (.ListComp elt [⟨tg, iter, ifs, 0⟩] scope pos) (dLc it gd tt te (own.map (·.2))) :=
  (pe_lc hc hN hi (blkOk_by ok) hg ht he hs).imp (lcE hcg mono (F := fun acc M Q => Q (.lst acc) M) fin_lst)
theorem d_lcR {elt tg iter : Expr} {ifs : List Expr} {scope : Scope} {own : List (Str × Nat)} {it : DI} {g : TG} {gd : DG} {tt : DT} {te : DE} (hc : X.calm = true) (hN : X.N.Nodup) (hi : PDI X (bs X CR E W) tg iter it) (ok : blkC X.N X.env.scope scope own = true)
    (hcg : CG X.K CR (own.map (·.2)) g gd) (mono : ∀ v σ H (Q Q' : L2.St → Hp → Prop), (∀ σ H, Q σ H → Q' σ H) → g v σ H Q → g v σ H Q')
    (hg : ∀ (s : Shared) (H : Hp) (C : Addr) (cl : List (Str × Addr)) (fp : List Addr), PG (X.blk s H scope (compEnvC scope cl C X.env) fp) tg g) (ht : ∀ (s : Shared) (H : Hp) (C : Addr) (cl : List (Str × Addr)) (fp : List Addr), PDTs (X.blk s H scope (compEnvC scope cl C X.env) fp) (bs X CR noE noW) ifs tt)
    (he : ∀ (s : Shared) (H : Hp) (C : Addr) (cl : List (Str × Addr)) (fp : List Addr), PD (X.blk s H scope (compEnvC scope cl C X.env) fp) (bs X CR noE noW) elt te) (hs : ∀ x, foldedSetIterable iter X.env x = pure x := by intro _; rfl) :
    PD X (bs X CR E W) (.ListComp elt [⟨tg, iter, ifs, 0⟩] scope pos) (dLcR it gd tt te (own.map (·.2))) :=
  (pe_lc hc hN hi (blkOk_by ok) hg ht he hs).imp (lcE hcg mono (F := fun acc M Q => ∀ p, M p = none → Q (.ref p) (mput M p (.lst acc))) fin_ref)
/-- name = [..] on one line -/
theorem setlcE {w : DE} {t : TE} {i : Nat} (h : ∀ σ H Q, lE (bs X CR E W) w σ H Q → t σ H Q) : ∀ Dn σ H, lS (bs X CR E W) (dSet i w) Dn σ H → tAsg t (gName i) Dn σ H := by
  intro Dn σ H hh
  obtain ⟨P, δ, M, Dd, hS, g, x, w, k⟩ := hh
  exact h σ H _ ⟨P, δ, M, _, hS, g, x, w, fun v H1 ⟨d, M1, z1, g1, r1, q⟩ => k.nx _ H1 ⟨_, M1, z1, g1, (hS.mono z1).set r1, q⟩⟩
theorem s_setLc {i : Nat} {y : Str} {py spos : Pos} {elt tg iter : Expr} {ifs : List Expr} {scope : Scope} {own : List (Str × Nat)} {it : DI} {g : TG} {gd : DG} {tt : DT} {te : DE} (hc : X.calm = true) (hN : X.N.Nodup) (hi : PDI X (bs X CR E W) tg iter it) (ok : blkC X.N X.env.scope scope own = true)
    (hcg : CG X.K CR (own.map (·.2)) g gd) (mono : ∀ v σ H (Q Q' : L2.St → Hp → Prop), (∀ σ H, Q σ H → Q' σ H) → g v σ H Q → g v σ H Q')
    (hg : ∀ (s : Shared) (H : Hp) (C : Addr) (cl : List (Str × Addr)) (fp : List Addr), PG (X.blk s H scope (compEnvC scope cl C X.env) fp) tg g) (ht : ∀ (s : Shared) (H : Hp) (C : Addr) (cl : List (Str × Addr)) (fp : List Addr), PDTs (X.blk s H scope (compEnvC scope cl C X.env) fp) (bs X CR noE noW) ifs tt)
    (he : ∀ (s : Shared) (H : Hp) (C : Addr) (cl : List (Str × Addr)) (fp : List Addr), PD (X.blk s H scope (compEnvC scope cl C X.env) fp) (bs X CR noE noW) elt te) (hsw : swapsWith (.ListComp elt [⟨tg, iter, ifs, 0⟩] scope pos) (some (.Name y py)) spos.line X.env = pure true) (hy : X.N[i]? = some y := by rfl) (hyl : X.env.scope.names.lookup y = some .local := by rfl) (hs : ∀ x, foldedSetIterable iter X.env x = pure x := by intro _; rfl) :
    PDS X (bs X CR E W) (.Assign [.Name y py] (.ListComp elt [⟨tg, iter, ifs, 0⟩] scope pos) spos) (dSet i (dLc it gd tt te (own.map (·.2)))) :=
  (ps_setLc hc hN hy hyl hsw hi (blkOk_by ok) hg ht he hs).imp (setlcE (lcE hcg mono (F := fun acc M Q => Q (.lst acc) M) fin_lst))
theorem s_setLcR {i : Nat} {y : Str} {py spos : Pos} {elt tg iter : Expr} {ifs : List Expr} {scope : Scope} {own : List (Str × Nat)} {it : DI} {g : TG} {gd : DG} {tt : DT} {te : DE} (hc : X.calm = true) (hN : X.N.Nodup) (hi : PDI X (bs X CR E W) tg iter it) (ok : blkC X.N X.env.scope scope own = true)
    (hcg : CG X.K CR (own.map (·.2)) g gd) (mono : ∀ v σ H (Q Q' : L2.St → Hp → Prop), (∀ σ H, Q σ H → Q' σ H) → g v σ H Q → g v σ H Q')
    (hg : ∀ (s : Shared) (H : Hp) (C : Addr) (cl : List (Str × Addr)) (fp : List Addr), PG (X.blk s H scope (compEnvC scope cl C X.env) fp) tg g) (ht : ∀ (s : Shared) (H : Hp) (C : Addr) (cl : List (Str × Addr)) (fp : List Addr), PDTs (X.blk s H scope (compEnvC scope cl C X.env) fp) (bs X CR noE noW) ifs tt)
    (he : ∀ (s : Shared) (H : Hp) (C : Addr) (cl : List (Str × Addr)) (fp : List Addr), PD (X.blk s H scope (compEnvC scope cl C X.env) fp) (bs X CR noE noW) elt te) (hsw : swapsWith (.ListComp elt [⟨tg, iter, ifs, 0⟩] scope pos) (some (.Name y py)) spos.line X.env = pure true) (hy : X.N[i]? = some y := by rfl) (hyl : X.env.scope.names.lookup y = some .local := by rfl) (hs : ∀ x, foldedSetIterable iter X.env x = pure x := by intro _; rfl) :
    PDS X (bs X CR E W) (.Assign [.Name y py] (.ListComp elt [⟨tg, iter, ifs, 0⟩] scope pos) spos) (dSet i (dLcR it gd tt te (own.map (·.2)))) :=
  (ps_setLc hc hN hy hyl hsw hi (blkOk_by ok) hg ht he hs).imp (setlcE (lcE hcg mono (F := fun acc M Q => ∀ p, M p = none → Q (.ref p) (mput M p (.lst acc))) fin_ref))
end
/-! ### operators on data -/
def rI2 (C : Int → Int → Prop) (g : Int → Int → D) : D2 := fun a b M Q => match a, b with
  | .int i, .int j => C i j ∧ Q (g i j) M
  | _, _ => False
section
variable {X : Cx} {CR : Addr}
theorem lf_int {O : Own} {H M} {Q : DK} {i : Int} (g : Good O H M) (q : Q (.int i) M) : LfV O H M Q (.int i) H := LfV.here (d := .int i) g rfl q
theorem lf_bl {O : Own} {H M} {Q : DK} {b : Bool} (g : Good O H M) (q : Q (.bl b) M) : LfV O H M Q (.bl b) H := LfV.here (d := .bl b) g rfl q
theorem lf_str {O : Own} {H M} {Q : DK} {x : Str} (g : Good O H M) (q : Q (.str x) M) : LfV O H M Q (.str x) H := LfV.here (d := .str x) g rfl q
theorem lf_non {O : Own} {H M} {Q : DK} (g : Good O H M) (q : Q .non M) : LfV O H M Q .non H := LfV.here (d := .non) g rfl q
theorem ops_int {f : Value → Value → Sem Value} {C : Int → Int → Prop} {g : Int → Int → Int} (h : OpR X f (rI C fun i j => .int (g i j))) : OpR X f (l2 X.K CR (rI2 C fun i j => .int (g i j))) := h.imp fun x y H Q hh => by
  obtain ⟨P, a, b, M, Qd, ra, rb, gd, r, k⟩ := hh
  cases a with
  | int i => cases b with
    | int j => exact ⟨i, j, ra, rb, r.1, k _ _ (lf_int gd r.2)⟩
    | _ => exact (show False from r).elim
  | _ => exact (show False from r).elim
theorem ops_int0 {f : Value → Value → Sem Value} {g : Int → Int → Int} (h : OpR X f (rI0 fun i j => .int (g i j))) : OpR X f (l2 X.K CR (rI2 (fun _ _ => True) fun i j => .int (g i j))) := h.imp fun x y H Q hh => by
  obtain ⟨P, a, b, M, Qd, ra, rb, gd, r, k⟩ := hh
  cases a with
  | int i => cases b with
    | int j => exact ⟨i, j, ra, rb, k _ _ (lf_int gd r.2)⟩
    | _ => exact (show False from r).elim
  | _ => exact (show False from r).elim
theorem ops_cmp {f : Value → Value → Sem Value} {g : Int → Int → Bool} (h : OpR X f (rI0 fun i j => .bl (g i j))) : OpR X f (l2 X.K CR (rI2 (fun _ _ => True) fun i j => .bl (g i j))) := h.imp fun x y H Q hh => by
  obtain ⟨P, a, b, M, Qd, ra, rb, gd, r, k⟩ := hh
  cases a with
  | int i => cases b with
    | int j => exact ⟨i, j, ra, rb, k _ _ (lf_bl gd r.2)⟩
    | _ => exact (show False from r).elim
  | _ => exact (show False from r).elim
def CFd (_ j : Int) : Prop := j ≠ 0 ∧ j.natAbs.log2 < 9000
def rSubI : D2 := rI2 (fun _ _ => True) fun i j => .int (i - j)
def rMod : D2 := rI2 (fun _ j => j ≠ 0) fun i j => .int (i.fmod j)
def rFdiv : D2 := rI2 CFd fun i j => .int (i.fdiv j)
def rPow : D2 := rI2 CPow fun i j => .int (i ^ j.toNat)
def rMulI : D2 := rI2 IntMulOk fun i j => .int (i * j)
theorem op_mulX : OpR X (binaryOp .Mult) (rI IntMulOk fun i j => .int (i * j)) := opI fun _ _ _ _ _ _ _ hc q => mul_int q hc
def rLt : D2 := rI2 (fun _ _ => True) fun i j => .bl (decide (i < j))
def rLe : D2 := rI2 (fun _ _ => True) fun i j => .bl (decide (i ≤ j))
def rGt : D2 := rI2 (fun _ _ => True) fun i j => .bl (decide (j < i))
def rGe : D2 := rI2 (fun _ _ => True) fun i j => .bl (decide (j ≤ i))
theorem o_subI : OpR X (binaryOp .Sub) (l2 X.K CR rSubI) := ops_int0 op_sub
theorem o_mod : OpR X (binaryOp .Mod) (l2 X.K CR rMod) := ops_int op_modN
theorem o_mulI : OpR X (binaryOp .Mult) (l2 X.K CR rMulI) := ops_int op_mulX
theorem o_pow : OpR X (binaryOp .Pow) (l2 X.K CR rPow) := ops_int op_pow
theorem op_fdX : OpR X (binaryOp .FloorDiv) (rI CFd fun i j => .int (i.fdiv j)) := opI fun _ _ _ _ _ _ _ hc q => floordiv_int hc.1 q (.inl (PyProof.noPylong_of_log2 hc.2))
theorem o_fdiv : OpR X (binaryOp .FloorDiv) (l2 X.K CR rFdiv) := ops_int op_fdX
theorem o_lt : OpR X (compareOp .Lt) (l2 X.K CR rLt) := ops_cmp op_lt
theorem o_le : OpR X (compareOp .LtE) (l2 X.K CR rLe) := ops_cmp op_le
theorem o_gt : OpR X (compareOp .Gt) (l2 X.K CR rGt) := ops_cmp op_gt
theorem o_ge : OpR X (compareOp .GtE) (l2 X.K CR rGe) := ops_cmp op_ge
def rNeg : D1 := fun a M Q => match a with
  | .int i => Q (.int (-i)) M
  | _ => False
theorem o_negI : UnR X (unaryOp .USub) (l1 X.K CR rNeg) := un_neg.imp fun x H Q hh => by
  obtain ⟨P, a, M, Qd, ra, gd, r, k⟩ := hh
  cases a with
  | int i => exact ⟨i, ra, k _ _ (lf_int gd r)⟩
  | _ => exact (show False from r).elim
/-- + of ints, texts, lists, tuples -/
def rAddP : D2 := fun a b M Q => match a, b with
  | .int i, .int j => Q (.int (i + j)) M
  | .str x, .str y => x.length + y.length ≤ sizeLine ∧ Q (.str (x ++ y)) M
  | .lst xs, .lst ys => xs.length + ys.length ≤ sizeLine ∧ Q (.lst (xs ++ ys)) M
  | .tup xs, .tup ys => xs ≠ [] ∧ xs.length + ys.length ≤ sizeLine ∧ Q (.tup (xs ++ ys)) M
  | _, _ => False
theorem reps_nil_iff {O : Own} {H M} {ds : List D} {vs : List V} (h : Reps O H M ds vs) : vs = [] ↔ ds = [] := by
  have e := h.length
  cases ds <;> cases vs <;> simp_all
theorem o_addP : OpR X (binaryOp .Add) (l2 X.K CR rAddP) := (op_add.or (op_add_str.or (op_cat.or op_catT))).imp fun x y H Q hh => by
  obtain ⟨P, a, b, M, Qd, ra, rb, gd, r, k⟩ := hh
  cases a with
  | int i => cases b with
    | int j => exact .inl ⟨i, j, ra, rb, k _ _ (lf_int gd r)⟩
    | _ => exact (show False from r).elim
  | str i => cases b with
    | str j => exact .inr (.inl ⟨i, j, ra, rb, r.1, k _ _ (lf_str gd r.2)⟩)
    | _ => exact (show False from r).elim
  | lst xs => cases b with
    | lst ys =>
      obtain ⟨p, vs, rfl, f, rs⟩ := ra
      obtain ⟨q, ws, rfl, f2, rs2⟩ := rb
      exact .inr (.inr (.inl ⟨p, q, vs, ws, rfl, rfl, f.2, f2.2, by rw [← rs.length, ← rs2.length]; exact r.1, fun u hu => k _ _ (newL gd hu (rs.append rs2) r.2)⟩))
    | _ => exact (show False from r).elim
  | tup xs => cases b with
    | tup ys =>
      have rb' := rb
      obtain ⟨p, vs, rfl, f, rs⟩ := ra
      obtain ⟨q, ws, rfl, f2, rs2⟩ := rb
      obtain ⟨h1, h2, h3⟩ := (show xs ≠ [] ∧ xs.length + ys.length ≤ sizeLine ∧ Qd (.tup (xs ++ ys)) M from r)
      refine .inr (.inr (.inr ⟨p, q, vs, ws, rfl, rfl, f.sq, f2.sq, fun e => h1 ((reps_nil_iff rs).mp e), by rw [← rs.length, ← rs2.length]; exact h2, fun e => ?_, fun _ u hu => k _ _ (newT gd hu (rs.append rs2) h3)⟩))
      have e2 := (reps_nil_iff rs2).mp e
      subst e2
      rw [List.append_nil] at h3
      exact k _ _ (LfV.here (d := .tup xs) gd ⟨p, vs, rfl, f, rs⟩ h3)
    | _ => exact (show False from r).elim
  | _ => exact (show False from r).elim
/-! ### equality of plain data -/
mutual
/-- None, ints, texts, tuples, lists of such, n deep -/
def plD : D → Nat → Bool
  | .non, _ => true
  | .int _, _ => true
  | .str x, _ => PyData.strOk x
  | .tup xs, n + 1 => plDs xs n
  | .lst xs, n + 1 => plDs xs n
  | _, _ => false
def plDs : List D → Nat → Bool
  | [], _ => true
  | d :: ds, n => plD d n && plDs ds n
end
mutual
def datD : D → PyData
  | .int i => .int i
  | .str x => .str x
  | .tup xs => .tuple (datDs xs)
  | .lst xs => .list (datDs xs)
  | _ => .none
def datDs : List D → List PyData
  | [] => []
  | d :: ds => datD d :: datDs ds
end
mutual
theorem can_of : ∀ {d : D} {n : Nat}, plD d n = true → (datD d).canLay0 = true ∧ (datD d).depth ≤ n
  | .non, n, _ => ⟨by simp [datD, PyData.canLay0], by simp [datD, PyData.depth]⟩
  | .int i, n, _ => ⟨by simp [datD, PyData.canLay0], by simp [datD, PyData.depth]⟩
  | .str x, n, h => ⟨by simpa [datD, PyData.canLay0, plD] using h, by simp [datD, PyData.depth]⟩
  | .tup xs, n + 1, h => by
    have := cans_of (ds := xs) (n := n) h
    exact ⟨by simpa [datD, PyData.canLay0] using this.1, by simpa [datD, PyData.depth] using this.2⟩
  | .lst xs, n + 1, h => by
    have := cans_of (ds := xs) (n := n) h
    exact ⟨by simpa [datD, PyData.canLay0] using this.1, by simpa [datD, PyData.depth] using this.2⟩
theorem cans_of : ∀ {ds : List D} {n : Nat}, plDs ds n = true → PyData.canLayAll0 (datDs ds) = true ∧ PyData.depthAll (datDs ds) ≤ n
  | [], n, _ => ⟨by simp [datDs, PyData.canLayAll0], by simp [datDs, PyData.depthAll]⟩
  | d :: ds, n, h => by
    obtain ⟨h1, h2⟩ := Bool.and_eq_true_iff.mp h
    have a := can_of h1
    have b := cans_of h2
    exact ⟨by simp [datDs, PyData.canLayAll0, a.1, b.1], by simp [datDs, PyData.depthAll]; omega⟩
end
theorem shaped_of {d : D} (h : plD d 8 = true) : SeqAt.shaped (datD d) = true := by
  have := can_of h
  unfold SeqAt.shaped
  rw [this.1, decide_eq_true (by omega)]
  rfl
section
variable {O : Own} {H : Hp} {M : Mem}
mutual
theorem dp_of : ∀ {d : D} {n : Nat} {v : V}, plD d n = true → Rep O H M d v → Dp O.K H v (datD d)
  | .non, _, _, _, r => by rw [show _ = V.non from r]; exact .non
  | .int i, _, _, _, r => by rw [show _ = V.int i from r]; exact .int i
  | .str x, _, _, _, r => by rw [show _ = V.str x from r]; exact .str x
  | .tup xs, n + 1, _, h, r => by
    obtain ⟨a, vs, rfl, f, rs⟩ := r
    exact .tup f.sq (dps_of (n := n) h rs)
  | .lst xs, n + 1, _, h, r => by
    obtain ⟨a, vs, rfl, f, rs⟩ := r
    exact .lst f.sq (dps_of (n := n) h rs)
theorem dps_of : ∀ {ds : List D} {n : Nat} {vs : List V}, plDs ds n = true → Reps O H M ds vs → DpAll O.K H vs (datDs ds)
  | [], _, _, _, r => by rw [show _ = [] from r]; exact .nil
  | d :: ds, n, _, h, r => by
    obtain ⟨v, vs, rfl, r1, r2⟩ := r
    obtain ⟨h1, h2⟩ := Bool.and_eq_true_iff.mp h
    exact .cons (dp_of h1 r1) (dps_of h2 r2)
end
end
mutual
theorem eqv_iff : ∀ {d e : D} {n m : Nat}, plD d n = true → plD e m = true → ((datD d).eqv (datD e) = true ↔ d = e)
  | .non, e, _, m, _, h => by cases e <;> simp_all [datD, PyData.eqv, plD]
  | .int i, e, _, m, _, h => by cases e <;> simp_all [datD, PyData.eqv, plD]
  | .str i, e, _, m, _, h => by cases e <;> simp_all [datD, PyData.eqv, plD]
  | .tup xs, e, n + 1, m, h', h => by
    cases e with
    | tup ys => cases m with
      | zero => cases h
      | succ m =>
        have := eqvs_iff (ds := xs) (es := ys) (n := n) (m := m) h' h
        simpa [datD, PyData.eqv] using this
    | _ => simp_all [datD, PyData.eqv, plD]
  | .lst xs, e, n + 1, m, h', h => by
    cases e with
    | lst ys => cases m with
      | zero => cases h
      | succ m =>
        have := eqvs_iff (ds := xs) (es := ys) (n := n) (m := m) h' h
        simpa [datD, PyData.eqv] using this
    | _ => simp_all [datD, PyData.eqv, plD]
theorem eqvs_iff : ∀ {ds es : List D} {n m : Nat}, plDs ds n = true → plDs es m = true → (PyData.eqvAll (datDs ds) (datDs es) = true ↔ ds = es)
  | [], [], _, _, _, _ => by simp [datDs, PyData.eqvAll]
  | [], _ :: _, _, _, _, _ => by simp [datDs, PyData.eqvAll]
  | _ :: _, [], _, _, _, _ => by simp [datDs, PyData.eqvAll]
  | d :: ds, e :: es, n, m, h, h' => by
    obtain ⟨h1, h2⟩ := Bool.and_eq_true_iff.mp h
    obtain ⟨h3, h4⟩ := Bool.and_eq_true_iff.mp h'
    have a := eqv_iff h1 h3
    have b := eqvs_iff h2 h4
    simp [datDs, PyData.eqvAll, a, b]
end
section
variable {X : Cx} {CR : Addr}
/-- == : plain data; two truth values -/
def rEqP : D2 := fun a b M Q => (plD a 8 = true ∧ plD b 8 = true ∧ ∀ k : Bool, (k = true ↔ a = b) → Q (.bl k) M) ∨ ∃ x y, a = .bl x ∧ b = .bl y ∧ Q (.bl (x == y)) M
def rNeP : D2 := fun a b M Q => (plD a 8 = true ∧ plD b 8 = true ∧ ∀ k : Bool, (k = true ↔ a ≠ b) → Q (.bl k) M) ∨ ∃ x y, a = .bl x ∧ b = .bl y ∧ Q (.bl (x != y)) M
theorem o_eqP (hu : X.A.units + 64 < cLine) : OpR X (compareOp .Eq) (l2 X.K CR rEqP) := ((op_eqD hu).or op_eq).imp fun x y H Q hh => by
  obtain ⟨P, a, b, M, Qd, ra, rb, gd, r, k⟩ := hh
  rcases r with ⟨p1, p2, q⟩ | ⟨b1, b2, rfl, rfl, q⟩
  · exact .inl ⟨_, _, dp_of p1 ra, dp_of p2 rb, shaped_of p1, shaped_of p2, k _ _ (lf_bl gd (q _ (eqv_iff p1 p2)))⟩
  · rw [show x = .bl b1 from ra, show y = .bl b2 from rb]
    refine .inr ⟨rfl, ?_⟩
    rw [dec_bl]
    exact k _ _ (lf_bl gd q)
theorem o_neP (hu : X.A.units + 64 < cLine) : OpR X (compareOp .NotEq) (l2 X.K CR rNeP) := ((op_neD hu).or op_ne).imp fun x y H Q hh => by
  obtain ⟨P, a, b, M, Qd, ra, rb, gd, r, k⟩ := hh
  rcases r with ⟨p1, p2, q⟩ | ⟨b1, b2, rfl, rfl, q⟩
  · refine .inl ⟨_, _, dp_of p1 ra, dp_of p2 rb, shaped_of p1, shaped_of p2, k _ _ (lf_bl gd (q _ ?_))⟩
    have := eqv_iff p1 p2
    rw [Bool.not_eq_true', ← Bool.not_eq_true, this]
  · rw [show x = .bl b1 from ra, show y = .bl b2 from rb]
    refine .inr ⟨rfl, ?_⟩
    rw [dec_bl]
    exact k _ _ (lf_bl gd q)
/-! ### is None -/
def isNonD : D → Bool
  | .non => true
  | _ => false
theorem isNon_of {O : Own} {H M} {d : D} {v : V} (r : Rep O H M d v) : decide (v = .non) = isNonD d := by
  cases d with
  | non => rw [show v = .non from r]; rfl
  | bl b => rw [show v = .bl b from r]; rfl
  | int b => rw [show v = .int b from r]; rfl
  | str b => rw [show v = .str b from r]; rfl
  | ref b => rw [show v = .ref b from r]; rfl
  | ty b => rw [show v = .ty b from r]; rfl
  | rat q => obtain ⟨a, _, rfl, _⟩ := r; rfl
  | tup q => obtain ⟨a, _, rfl, _⟩ := r; rfl
  | lst q => obtain ⟨a, _, rfl, _⟩ := r; rfl
  | scr q => obtain ⟨a, _, rfl, _⟩ := r; rfl
  | obj C ns q => obtain ⟨a, _, _, rfl, _⟩ := r; rfl
def rIsN : D2 := fun a b M Q => b = .non ∧ Q (.bl (isNonD a)) M
def rNotN : D2 := fun a b M Q => b = .non ∧ Q (.bl (!isNonD a)) M
theorem o_isN : OpR X (compareOp .Is) (l2 X.K CR rIsN) := op_isN.imp fun x y H Q hh => by
  obtain ⟨P, a, b, M, Qd, ra, rb, gd, ⟨rfl, r⟩, k⟩ := hh
  refine ⟨rb, ?_⟩
  rw [isNon_of ra]
  exact k _ _ (lf_bl gd r)
theorem o_notN : OpR X (compareOp .IsNot) (l2 X.K CR rNotN) := op_notN.imp fun x y H Q hh => by
  obtain ⟨P, a, b, M, Qd, ra, rb, gd, ⟨rfl, r⟩, k⟩ := hh
  refine ⟨rb, ?_⟩
  rw [isNon_of ra]
  exact k _ _ (lf_bl gd r)
/-! ### in -/
/-- one sign in a text -/
def rInS (neg : Bool) : D2 := fun a b M Q => ∃ (c : Nat) (z : Str), a = .str ⟨#[c]⟩ ∧ b = .str z ∧ Q (.bl (if neg then !decide (c ∈ z.cps.toList) else decide (c ∈ z.cps.toList))) M
theorem o_inS : OpR X (compareOp .In) (l2 X.K CR (rInS false)) := op_in_sign.imp fun x y H Q hh => by
  obtain ⟨P, a, b, M, Qd, ra, rb, gd, ⟨c, z, rfl, rfl, q⟩, k⟩ := hh
  exact ⟨c, z, ra, rb, k _ _ (lf_bl gd q)⟩
theorem o_notInS : OpR X (compareOp .NotIn) (l2 X.K CR (rInS true)) := op_notIn_sign.imp fun x y H Q hh => by
  obtain ⟨P, a, b, M, Qd, ra, rb, gd, ⟨c, z, rfl, rfl, q⟩, k⟩ := hh
  exact ⟨c, z, ra, rb, k _ _ (lf_bl gd q)⟩
/-! ### places -/
/-- x[i] -/
def rIxD : D2 := fun a b M Q => ∃ i, b = .int i ∧ match a with
  | .tup xs => ∃ d, atI xs i = some d ∧ Q d M
  | .lst xs => ∃ d, atI xs i = some d ∧ Q d M
  | .scr xs => ∃ d, atI xs i = some d ∧ Q d M
  | .ref p => ∃ xs d, M p = some (.lst xs) ∧ atI xs i = some d ∧ Q d M
  | .str z => z.length ≤ sizeLine ∧ ∃ c, atI z.cps.toList i = some c ∧ Q (.str ⟨#[c]⟩) M
  | _ => False
theorem Reps.atI {O : Own} {H M} {ds : List D} {vs : List V} {i : Int} {d : D} (h : Reps O H M ds vs) (e : L2.atI ds i = some d) : ∃ v, L2.atI vs i = some v ∧ Rep O H M d v := by
  unfold L2.atI at e ⊢
  rw [← h.length]
  cases q : ixN ds.length i with
  | none => rw [q] at e; cases e
  | some j =>
    rw [q] at e
    exact h.get (i := j) e
theorem _root_.L2.IxR.imp {X : Cx} {r r' : R2} (h : IxR X r) (i : ∀ x y H Q, r' x y H Q → r x y H Q) : IxR X r' := by
  intro a1 a2 a3 a4 a5 a6 a7 a8 a9 a10 a11 a12 a13 a14 q
  exact h a1 a2 a3 a4 a5 a6 a7 a8 a9 a10 a11 a12 a13 a14 (i _ _ _ _ q)
theorem x_ix : IxR X (l2 X.K CR rIxD) := ix_seq.imp fun x y H Q hh => (by
  obtain ⟨P, a, b, M, Qd, ra, rb, gd, ⟨i, rfl, r⟩, k⟩ := hh
  cases a with
  | tup xs =>
    obtain ⟨p, vs, rfl, f, rs⟩ := ra
    obtain ⟨d, e, q⟩ := r
    obtain ⟨v, e1, r1⟩ := rs.atI e
    exact .inr (.inl ⟨p, vs, i, v, rfl, rb, f.sq, e1, k _ _ (LfV.here gd r1 q)⟩)
  | lst xs =>
    obtain ⟨p, vs, rfl, f, rs⟩ := ra
    obtain ⟨d, e, q⟩ := r
    obtain ⟨v, e1, r1⟩ := rs.atI e
    exact .inl ⟨p, vs, i, v, rfl, rb, f.sq, e1, k _ _ (LfV.here gd r1 q)⟩
  | scr xs =>
    obtain ⟨p, vs, rfl, f, rs⟩ := ra
    obtain ⟨d, e, q⟩ := r
    obtain ⟨v, e1, r1⟩ := rs.atI e
    exact .inl ⟨p, vs, i, v, rfl, rb, f.sq, e1, k _ _ (LfV.here gd r1 q)⟩
  | ref p =>
    obtain ⟨xs, d, em, e, q⟩ := r
    obtain ⟨vs, eh, rs⟩ := gd.at_ p _ em
    obtain ⟨v, e1, r1⟩ := rs.atI e
    exact .inl ⟨p, vs, i, v, ra, rb, .of eh, e1, k _ _ (LfV.here gd r1 q)⟩
  | str z =>
    obtain ⟨hz, c, e, q⟩ := r
    exact .inr (.inr ⟨z, i, c, ra, rb, hz, e, k _ _ (lf_str gd q)⟩)
  | _ => exact (show False from r).elim)
variable {E : DXS} {W : WX} {a b : Expr} {wa wb : DE} {pos : Pos}
theorem d_ix (ha : PD X (bs X CR E W) a wa) (hb : PD X (bs X CR E W) b wb) (hs : PlainIx b := by exact fun _ _ => rfl) : PD X (bs X CR E W) (.Subscript a b pos) (dOp rIxD wa wb) := (pe_ix x_ix ha hb hs).imp op_ok
/-! ### len, int, abs -/
def lenD (d : D) (M : Mem) (n : Nat) : Prop := match d with
  | .tup xs => n = xs.length
  | .lst xs => n = xs.length
  | .scr xs => n = xs.length
  | .str z => z.length ≤ sizeLine ∧ n = z.length
  | .ref p => ∃ xs, M p = some (.lst xs) ∧ n = xs.length
  | _ => False
def rLen : DC := fun ds M Q => ∃ d n, ds = [d] ∧ lenD d M n ∧ Q (.int (n : Int)) M
theorem c_len : CallR X (.builtin "len") (lC X.K CR rLen) := call_len.imp fun xs H Q hh => by
  obtain ⟨P, ds, M, Qd, rs, gd, ⟨d, n, rfl, l, q⟩, k⟩ := hh
  obtain ⟨v, r, rfl, r1, r2⟩ := rs
  rw [show r = [] from r2]
  refine ⟨v, n, rfl, ?_, k _ _ (lf_int gd q)⟩
  cases d with
  | tup xs => obtain ⟨p, vs, rfl, f, rs⟩ := r1; exact .inr ⟨vs, f.sq, by rw [← rs.length]; exact l⟩
  | lst xs => obtain ⟨p, vs, rfl, f, rs⟩ := r1; exact .inl ⟨vs, f.sq, by rw [← rs.length]; exact l⟩
  | scr xs => obtain ⟨p, vs, rfl, f, rs⟩ := r1; exact .inl ⟨vs, f.sq, by rw [← rs.length]; exact l⟩
  | str z => rw [show v = .str z from r1]; exact l
  | ref p =>
    obtain ⟨xs, e, l⟩ := l
    obtain ⟨vs, eh, rs⟩ := gd.at_ p _ e
    rw [show v = .ref p from r1]
    exact .inl ⟨vs, .of eh, by rw [← rs.length]; exact l⟩
  | _ => exact (show False from l).elim
def rInt : DC := fun ds M Q => (∃ i, ds = [.int i] ∧ Q (.int i) M) ∨ ∃ b, ds = [.bl b] ∧ Q (.int (if b then 1 else 0)) M
theorem c_int : CallR X (.type "int") (lC X.K CR rInt) := call_int1.imp fun xs H Q hh => by
  obtain ⟨P, ds, M, Qd, rs, gd, r, k⟩ := hh
  rcases r with ⟨i, rfl, q⟩ | ⟨i, rfl, q⟩
  · obtain ⟨v, r, rfl, r1, r2⟩ := rs
    rw [show r = [] from r2, show v = _ from r1]
    exact .inl ⟨i, rfl, k _ _ (lf_int gd q)⟩
  · obtain ⟨v, r, rfl, r1, r2⟩ := rs
    rw [show r = [] from r2, show v = _ from r1]
    exact .inr ⟨i, rfl, k _ _ (lf_int gd q)⟩
def rAbsI : DC := fun ds M Q => ∃ i, ds = [.int i] ∧ Q (.int (if i < 0 then -i else i)) M
theorem c_absI : CallR X (.builtin "abs") (lC X.K CR rAbsI) := call_abs.imp fun xs H Q hh => by
  obtain ⟨P, ds, M, Qd, rs, gd, ⟨i, rfl, q⟩, k⟩ := hh
  obtain ⟨v, r, rfl, r1, r2⟩ := rs
  rw [show r = [] from r2, show v = _ from r1]
  exact ⟨i, rfl, k _ _ (lf_int gd q)⟩
/-! ### list.append of a list of the memory -/
def dBM0 (r : D → List D → Mem → DK → Prop) (w : DE) (t : DA) : DE := fun δ M Q => w δ M fun o M1 => t δ M1 fun ds M2 => r o ds M2 Q
def rApp : D → List D → Mem → DK → Prop := fun o ds M Q => ∃ p xs y, o = .ref p ∧ ds = [y] ∧ M p = some (.lst xs) ∧ xs.length < sizeLine ∧ Q .non (mput M p (.lst (xs ++ [y])))
/-- what the receiver is, ahead of the arguments -/
def isLstD (o : D) (M : Mem) : Prop := ∃ p xs, o = .ref p ∧ M p = some (.lst xs)
def dApp (w : DE) (t : DA) : DE := fun δ M Q => w δ M fun o M1 => isLstD o M1 ∧ t δ M1 fun ds M2 => rApp o ds M2 Q
theorem d_app {e : Expr} {w : DE} {t : DA} (h : PE X e (tBM X.K "list" rAppend (lE (bs X CR E W) w) (lA (bs X CR E W) t))) : PD X (bs X CR E W) e (dApp w t) := by
  refine h.imp fun σ H Q h => ?_
  obtain ⟨P, δ, M, Qd, hS, g, x, w, k⟩ := h
  refine ⟨P, δ, M, _, hS, g, x, w, fun v H1 ⟨d, M1, z1, g1, r1, ⟨p, xs, ed, em⟩, q⟩ => ?_⟩
  subst ed
  obtain ⟨vs, eh, rs⟩ := g1.at_ p _ em
  rw [show v = .ref p from r1]
  refine ⟨.inl ⟨rfl, vs, .of eh⟩, P, δ, M1, _, hS.mono z1, g1, x.trans z1, q, fun us H2 ds M2 z2 g2 rs2 q2 => ?_⟩
  obtain ⟨p', xs', y, ep, rfl, em', hz, q3⟩ := q2
  cases ep
  obtain ⟨vs', eh', rs'⟩ := g2.at_ p _ em'
  obtain ⟨u, r, rfl, r1', r2⟩ := rs2
  have z3 : Fz ⟨X.K, CR, P⟩ H2 M2 (upd H2 p (.lst (vs' ++ [u]))) (mput M2 p (.lst (xs' ++ [y]))) := fz_put g2 em'
  refine ⟨p, vs', u, rfl, by rw [show r = [] from r2], eh', by rw [← rs'.length]; exact hz, ?_⟩
  exact k _ _ ⟨.non, _, (z1.trans z2).trans z3, good_put g2 (g2.noP em') z3 (show RepO _ _ _ p (.lst _) from ⟨_, upd_same, (rs'.append (Reps.one r1')).mono z3⟩), rfl, q3⟩
end
end
/-! ### promises over data -/
abbrev DSp := List D → Mem → DK → DX → Prop
abbrev noX : DX := fun _ _ _ _ => False
def lSp (K : PySem.W.Frag) (CR : Addr) (sp : DSp) : Sp := fun vs H Q E => ∃ P ds M Qd Ed, Reps ⟨K, CR, P⟩ H M ds vs ∧ Good ⟨K, CR, P⟩ H M ∧ sp ds M Qd Ed ∧ (∀ v H', LfV ⟨K, CR, P⟩ H M Qd v H' → Q v H') ∧ ∀ c d H', LfX ⟨K, CR, P⟩ H M Ed c d H' → E c d H'
theorem LfX.no {O : Own} {H M c d H'} (h : LfX O H M noX c d H') : False := let ⟨_, _, _, _, _, _, _, _, q⟩ := h; q
theorem LfX.trans {O : Own} {H M H1 M1 E c d H'} (z : Fz O H M H1 M1) (h : LfX O H1 M1 E c d H') : LfX O H M E c d H' := let ⟨C, ns, fs, M', e, z', r⟩ := h; ⟨C, ns, fs, M', e, z.trans z', r⟩
/-- a call that raises nothing -/
def dCall (sp : DSp) (t : DA) : DE := fun δ M Q => t δ M fun ds M1 => sp ds M1 Q noX
/-- with defaults behind -/
def dCallD (sp : DSp) (dd : List D) (t : DA) : DE := fun δ M Q => t δ M fun ds M1 => sp (ds ++ dd) M1 Q noX
/-- a call that may raise what Ed wishes -/
def dCallX (sp : DSp) (Ed : DXS) (t : DA) : DE := fun δ M Q => t δ M fun ds M1 => sp ds M1 Q fun C ns fs M' => Ed C ns fs δ M'
/-- a def of the text keeps its promise -/
structure Def (P : Program) (w : World) (K : PySem.W.Frag) (mg : Str → Option Value) (base : Heap) (CR : Addr) (k : Nat) (x : Str) (ps : List Str) (sp : DSp) : Prop where
  ex : ∃ f fd, FnOk P w K mg base (L2.CX P w) k f fd ps (lSp K CR sp) ∧ mg x = some (.ref f) ∧ PySem.W.keepIn K (.ref f) = true ∧ Binds K fd ps []
section
variable {X : Cx} {CR : Addr} {E : DXS} {W : WX} {pos : Pos} {k : Nat} {x : Str} {ps : List Str} {sp : DSp} {e : Expr} {es : List Expr} {t : DA} {p : Pos}
theorem d_call (F : Def X.prog X.w X.K X.mg X.base CR k x ps sp) (hr : Room k X.A) (ha : PDA X (bs X CR E W) (e :: es) t) (hg : Gl X x := by rfl)
    (hdb : (x == ("__debug__" : Str)) = false := by decide) (he : starEach (e :: es) X.env = (false, eval e X.env) :: starEach es X.env := by rfl) (hpl : (backTo pos (starEach es X.env)).any (·.1) = false := by rfl) : PD X (bs X CR E W) (.Call (.Name x p) (e :: es) [] pos) (dCall sp t) := by
  obtain ⟨f, fd, F, hm, hk, hb⟩ := F.ex
  refine (pe_call F hr hg hm hk hb .nil passL ha hdb he hpl).imp fun σ H Q h => ?_
  obtain ⟨P, δ, M, Qd, hS, g, x, w, k⟩ := h
  refine ⟨P, δ, M, _, hS, g, x, w, fun vs H1 ds M1 z1 g1 rs q => ?_⟩
  show lSp X.K CR sp (vs ++ []) H1 Q E0
  rw [List.append_nil]
  exact ⟨P, ds, M1, Qd, noX, rs, g1, q, fun v H' l => k v H' (l.trans z1), fun c d H' l => l.no⟩
theorem d_call0 (F : Def X.prog X.w X.K X.mg X.base CR k x ps sp) (hr : Room k X.A) (hg : Gl X x := by rfl) (hdb : (x == ("__debug__" : Str)) = false := by decide) : PD X (bs X CR E W) (.Call (.Name x p) [] [] pos) (dCall sp dNil) := by
  obtain ⟨f, fd, F, hm, hk, hb⟩ := F.ex
  refine (pe_call0 F hr hg hm hk hb .nil passL hdb).imp fun σ H Q h => ?_
  obtain ⟨P, δ, M, Qd, hS, g, x, w, k⟩ := h
  exact ⟨P, [], M, Qd, noX, rfl, g, w, k, fun c d H' l => l.no⟩
end
/-- the names' values at the entry -/
def startD (n : Nat) (ds : List D) : DS0 := ds.map some ++ List.replicate (n - ds.length) none
theorem reps_start {O : Own} {H M} {ds : List D} {vs : List V} {N : List Str} (r : Reps O H M ds vs) : RepS O H M (startD N.length ds) (L2.start N vs) := by
  refine ⟨by unfold startD L2.start; simp [r.length], fun i d e => ?_⟩
  unfold startD at e
  by_cases hi : i < ds.length
  · rw [List.getElem?_append_left (by simpa using hi), List.getElem?_map] at e
    cases q : ds[i]? with
    | none => rw [q] at e; cases e
    | some d' =>
      rw [q] at e
      cases e
      obtain ⟨v, ev, rv⟩ := r.get q
      refine ⟨v, ?_, rv⟩
      unfold L2.start
      rw [List.getElem?_append_left (by rw [List.length_map, ← r.length]; exact hi), List.getElem?_map, ev] <;> rfl
  · rw [List.getElem?_append_right (by simpa using hi), List.getElem?_replicate] at e
    split at e <;> cases e
section
variable {P : Program} {w : World} {K : PySem.W.Frag} {mg : Str → Option Value} {base : Heap} {CR : Addr}
/-- THE RULE for a def from which nothing is raised: its derivation, its reading -/
theorem okD {x qual : Str} {st : Stmt} {f : Addr} {fd : FuncData} {N ps : List Str} {k : Nat} {sp : DSp} {wd : DSt} {dvs : List V} {kws : List (Str × V)} (F : FunD K x qual (defArgs st) (defBody st) (defScope st) dvs kws f fd) (S : FnScope N ps (defScope st))
    (der : ∀ (cdv : Value) (A : Around) (outer : List Env) (s : Shared) (H : Hp) (E : XK), Room k (A.deeper (envOfC qual (defScope st) s.heap.objs.size f cdv)) →
      PDSs (cxOf (L2.CX P w) P w K mg base N qual (defScope st) f cdv A outer s H E).nox ⟨K, CR, noE, noW⟩ (defBody st) wd)
    (len : ∀ ds M Q E, sp ds M Q E → ds.length = ps.length)
    (rd : ∀ ds M Q E, sp ds M Q E → wd { nx := fun _ M' => Q .non M', rt := Q } (startD N.length ds) M) : FnOk P w K mg base (L2.CX P w) (k + 1) f fd ps (lSp K CR sp) := by
  refine F.ok S (fun vs H Q E h => ?_) (fun cdv A outer s H vs Q E hr h => ⟨lS ⟨K, CR, noE, noW⟩ wd, (der cdv A outer s H E hr).nox, ?_⟩)
  · obtain ⟨P, ds, M, Qd, Ed, r, g, h, _⟩ := h
    rw [← r.length]
    exact len _ _ _ _ h
  · obtain ⟨P, ds, M, Qd, Ed, r, g, h, k1, k2⟩ := h
    exact ⟨P, _, M, _, reps_start r, g, XL.no, rd ds M Qd Ed h, ⟨fun σ H' ⟨δ', M', z, g', _, q⟩ => k1 .non H' ⟨.non, M', z, g', rfl, q⟩, k1, fun _ _ ⟨_, _, _, _, _, q⟩ => q.elim, fun _ _ ⟨_, _, _, _, _, q⟩ => q.elim⟩⟩
theorem def_mk {x qual : Str} {st : Stmt} {fd : FuncData} {ps : List Str} {k : Nat} {sp : DSp} {f : Addr} (F : FunD K x qual (defArgs st) (defBody st) (defScope st) [] [] f fd) (hm : mg x = some (.ref f)) (ok : FnOk P w K mg base (L2.CX P w) k f fd ps (lSp K CR sp))
    (h : ∀ (kV doc pm : Value) (an : Option Addr) (cdv ct : Value) (us : List Value), us.length = ps.length → bindArgs (PySem.W.fnOf x qual (defArgs st) (defBody st) (defScope st) .none kV doc pm an cdv ct) ⟨us, []⟩ = pure (ps.zip us)) : Def P w K mg base CR k x ps sp :=
  ⟨f, fd, ok, hm, F.kp, F.bindsN h⟩
end
section
variable {X : Cx} {CR : Addr} {E : DXS} {W : WX} {pos : Pos}
/-- a built-in type as a value -/
theorem d_ty {x : Str} {n : String} (hm : X.mg x = none) (hv : bootBuiltins x = some (.type n) := by decide +kernel) (hg : Gl X x := by rfl) (hn : x ≠ "__name__" := by decide) (hd : (x == ("__debug__" : Str)) = false := by decide) : PD X (bs X CR E W) (.Name x pos) (dC (.ty n)) :=
  pd_c (pe_bltn (v := .ty n) hg hm hv rfl hn hd) fun _ _ _ => rfl
def tyD : D → Mem → Option String
  | .non, _ => some "NoneType"
  | .bl _, _ => some "bool"
  | .int _, _ => some "int"
  | .str _, _ => some "str"
  | .tup _, _ => some "tuple"
  | .lst _, _ => some "list"
  | .ref p, M => match M p with
    | some (.lst _) => some "list"
    | _ => none
  | _, _ => none
theorem tyD_ok {O : Own} {H M} {d : D} {v : V} {n : String} (g : Good O H M) (r : Rep O H M d v) (h : tyD d M = some n) : TyX O.K H v (.type n) := by
  cases d with
  | non => cases h; rw [show v = .non from r]; exact .base .non
  | bl b => cases h; rw [show v = .bl b from r]; exact .base (.bl b)
  | int b => cases h; rw [show v = .int b from r]; exact .base (.int b)
  | str b => cases h; rw [show v = .str b from r]; exact .base (.str b)
  | tup xs => cases h; obtain ⟨a, vs, rfl, f, _⟩ := r; exact .base (.tup f.2)
  | lst xs => cases h; obtain ⟨a, vs, rfl, f, _⟩ := r; exact .base (.lst f.2)
  | ref p =>
    rw [show v = .ref p from r]
    cases e : M p with
    | none => simp [tyD, e] at h
    | some o =>
      cases o with
      | lst xs =>
        simp [tyD, e] at h
        subst h
        obtain ⟨vs, eh, _⟩ := g.at_ p _ e
        exact .base (.lst eh)
      | ins _ _ _ => simp [tyD, e] at h
      | dic _ _ => simp [tyD, e] at h
  | rat q => cases h
  | scr q => cases h
  | ty q => cases h
  | obj _ _ _ => cases h
/-- isinstance(x, T), T built-in -/
def rIsi : DC := fun ds M Q => ∃ x T a r, ds = [x, .ty T] ∧ tyD x M = some a ∧ kitB a T = some r ∧ Q (.bl r) M
theorem c_isi : CallR X (.builtin "isinstance") (lC X.K CR rIsi) := call_isi.imp fun xs H Q hh => by
  obtain ⟨P, ds, M, Qd, rs, gd, ⟨x, T, a, r, rfl, h1, h2, q⟩, k⟩ := hh
  obtain ⟨v, r1, rfl, r2, v2, r3, rfl, r4, r5⟩ := rs
  rw [show r3 = [] from r5, show v2 = .ty T from r4]
  exact ⟨v, .ty T, .type a, .type T, r, rfl, .ty T, tyD_ok gd r2 h1, kit_ty h2, k _ _ (lf_bl gd q)⟩
/-! ### tuple(), list() -/
def rTupOf : DC := fun ds M Q => (∃ xs, ds = [.lst xs] ∧ Q (.tup xs) M) ∨ (∃ xs, ds = [.tup xs] ∧ Q (.tup xs) M) ∨ ∃ p xs, ds = [.ref p] ∧ M p = some (.lst xs) ∧ Q (.tup xs) M
theorem c_tuple : CallR X (.type "tuple") (lC X.K CR rTupOf) := call_tuple_of.imp fun xs H Q hh => by
  obtain ⟨P, ds, M, Qd, rs, gd, r, k⟩ := hh
  rcases r with ⟨xs, rfl, q⟩ | ⟨xs, rfl, q⟩ | ⟨p, xs, rfl, e, q⟩
  · obtain ⟨v, r1, rfl, ⟨a, vs, rfl, f, rs⟩, r5⟩ := rs
    rw [show r1 = [] from r5]
    exact ⟨a, vs, rfl, .inl ⟨f.sq, fun l hl => k _ _ (newT gd hl rs q)⟩⟩
  · obtain ⟨v, r1, rfl, ⟨a, vs, rfl, f, rs⟩, r5⟩ := rs
    rw [show r1 = [] from r5]
    exact ⟨a, vs, rfl, .inr ⟨f.sq, k _ _ (LfV.here (d := .tup xs) gd ⟨a, vs, rfl, f, rs⟩ q)⟩⟩
  · obtain ⟨v, r1, rfl, r2, r5⟩ := rs
    obtain ⟨vs, eh, rs⟩ := gd.at_ p _ e
    rw [show r1 = [] from r5, show v = .ref p from r2]
    exact ⟨p, vs, rfl, .inl ⟨.of eh, fun l hl => k _ _ (newT gd hl rs q)⟩⟩
def rLstOfG (ref : Bool) : DC := fun ds M Q => ∃ xs, (ds = [.lst xs] ∨ ds = [.tup xs] ∨ ∃ p, ds = [.ref p] ∧ M p = some (.lst xs)) ∧ if ref then (∀ p, M p = none → Q (.ref p) (mput M p (.lst xs))) else Q (.lst xs) M
abbrev rLstOf : DC := rLstOfG false
abbrev rLstOfR : DC := rLstOfG true
theorem lst_new {O : Own} {H M} {Q : DK} {ref : Bool} {xs : List D} {vs : List V} {l : Addr} (g : Good O H M) (hl : H l = none) (rs : Reps O H M xs vs) (q : if ref then (∀ p, M p = none → Q (.ref p) (mput M p (.lst xs))) else Q (.lst xs) M) : LfV O H M Q (.ref l) (upd H l (.lst vs)) := by
  cases ref with
  | true => exact newR g hl rs (q l (g.none hl).1)
  | false => exact newL g hl rs q
theorem c_listG {ref : Bool} : CallR X (.type "list") (lC X.K CR (rLstOfG ref)) := call_list_of.imp fun xs H Q hh => by
  obtain ⟨P, ds, M, Qd, rs, gd, ⟨xs, r, q⟩, k⟩ := hh
  rcases r with rfl | rfl | ⟨p, rfl, e⟩
  · obtain ⟨v, r1, rfl, ⟨a, vs, rfl, f, rs⟩, r5⟩ := rs
    rw [show r1 = [] from r5]
    exact ⟨a, vs, rfl, .inl f.sq, fun l hl => k _ _ (lst_new gd hl rs q)⟩
  · obtain ⟨v, r1, rfl, ⟨a, vs, rfl, f, rs⟩, r5⟩ := rs
    rw [show r1 = [] from r5]
    exact ⟨a, vs, rfl, .inr f.sq, fun l hl => k _ _ (lst_new gd hl rs q)⟩
  · obtain ⟨v, r1, rfl, r2, r5⟩ := rs
    obtain ⟨vs, eh, rs⟩ := gd.at_ p _ e
    rw [show r1 = [] from r5, show v = .ref p from r2]
    exact ⟨p, vs, rfl, .inl (.of eh), fun l hl => k _ _ (lst_new gd hl rs q)⟩
theorem c_list : CallR X (.type "list") (lC X.K CR rLstOf) := c_listG
theorem c_listR : CallR X (.type "list") (lC X.K CR rLstOfR) := c_listG
end
/-! ### little facts for readings -/
theorem ite_t {A B : Prop} (h : A) : if true = true then A else B := by rw [if_pos rfl]; exact h
theorem ite_f {A B : Prop} (h : B) : if false = true then A else B := by rw [if_neg Bool.false_ne_true]; exact h
theorem ite_d {c : Prop} [Decidable c] {A B : Prop} (h1 : c → A) (h2 : ¬ c → B) : if decide c = true then A else B := by
  by_cases h : c
  · rw [if_pos (decide_eq_true h)]; exact h1 h
  · rw [if_neg (by rw [decide_eq_false h]; exact Bool.false_ne_true)]; exact h2 h
theorem ite_b {b : Bool} {A B : Prop} (h1 : b = true → A) (h2 : b = false → B) : if b = true then A else B := by
  cases b with
  | true => exact ite_t (h1 rfl)
  | false => exact ite_f (h2 rfl)
/-! ### loops and comprehensions, by a word -/
theorem dLoop_ind {chk : Mem → Prop} {g : DG} {body : DSt} {De : DEnds} (I : List D → DS0 → Mem → Prop)
    (step : ∀ x xs δ M (K : DS0 → Mem → Prop), (∀ δ M, I xs δ M → K δ M) → I (x :: xs) δ M → chk M ∧ g x δ M fun δ1 M1 => body { De with nx := K, ct := K, bk := De.nx } δ1 M1)
    (fin : ∀ δ M, I [] δ M → chk M ∧ De.nx δ M) : ∀ xs δ M, I xs δ M → dLoop chk g body xs De δ M
  | [], δ, M, h => fin δ M h
  | x :: xs, δ, M, h => step x xs δ M _ (fun δ M h => dLoop_ind I step fin xs δ M h) h
theorem dLcL_ind {chk : Mem → Prop} {g : DG} {tt : DT} {te : DE} {δ : DS0} {Q : List D → Mem → Prop} (I : List D → List D → Mem → Prop)
    (step : ∀ x xs acc M (K : List D → Mem → Prop), (∀ acc M, I xs acc M → K acc M) → I (x :: xs) acc M → chk M ∧ acc.length < sizeLine ∧ g x δ M fun δ2 M2 => tt δ2 M2 fun b M3 => if b = true then te δ2 M3 fun y M4 => K (acc ++ [y]) M4 else K acc M3)
    (fin : ∀ acc M, I [] acc M → chk M ∧ Q acc M) : ∀ xs acc M, I xs acc M → dLcL chk g tt te δ xs acc M Q
  | [], acc, M, h => fin acc M h
  | x :: xs, acc, M, h => step x xs acc M (fun acc M => dLcL chk g tt te δ xs acc M Q) (fun acc M h => dLcL_ind I step fin xs acc M h) h
/-- a comprehension over values that makes a value of each -/
theorem lc_map {j : Nat} {te : DE} {δ : DS0} {Q : List D → Mem → Prop} (f : D → D) (P : D → Prop) (h : ∀ x M (K : DK), P x → K (f x) M → te (δ.set j (some x)) M K) :
    ∀ xs acc M, (∀ x, x ∈ xs → P x) → acc.length + xs.length ≤ sizeLine → Q (acc ++ xs.map f) M → dLcL always (gNm j) dYes te δ xs acc M Q
  | [], acc, M, _, _, q => ⟨trivial, by simpa using q⟩
  | x :: xs, acc, M, hp, hl, q => by
    refine ⟨trivial, by rw [List.length_cons] at hl; omega, ?_⟩
    refine ite_t (B := dLcL always (gNm j) dYes te δ xs acc M Q) (h x M _ (hp x List.mem_cons_self) (lc_map f P h xs _ M (fun y hy => hp y (List.mem_cons_of_mem _ hy)) ?_ ?_))
    · rw [List.length_append, List.length_singleton]; rw [List.length_cons] at hl; omega
    · simpa using q
theorem sz16 {n : Nat} (h : n ≤ 1000000) : n ≤ sizeLine := Nat.le_trans h (by decide)
theorem sz16lt {n : Nat} (h : n < 1000000) : n < sizeLine := Nat.lt_of_lt_of_le h (by decide)
theorem mulL {i j : Int} (h1 : -(2 ^ 64) < i) (h2 : i < 2 ^ 64) : IntMulOk i j := .of_left (intBits_le_64 h1 h2)
theorem mulR {i j : Int} (h1 : -(2 ^ 64) < j) (h2 : j < 2 ^ 64) : IntMulOk i j := .of_right (intBits_le_64 h1 h2)
theorem fmod_pos {a b : Int} (h : 0 < b) : a.fmod b = a % b := Int.fmod_eq_emod_of_nonneg a (by omega)
theorem fdiv_pos {a b : Int} (h : 0 < b) : a.fdiv b = a / b := Int.fdiv_eq_ediv_of_nonneg a (by omega)
theorem cfd_small {i j : Int} (h : 0 < j) (h2 : j < 1000000000) : CFd i j := ⟨by omega, by
  by_cases h0 : j.natAbs = 0
  · rw [h0]; decide
  · have : j.natAbs.log2 < 30 := (Nat.log2_lt h0).mpr (by omega)
    omega⟩
theorem atI_nn {α : Type} {xs : List α} {k : Int} {v : α} (h0 : 0 ≤ k) (h : xs[k.toNat]? = some v) : atI xs k = some v := by
  have e : k = ((k.toNat : Nat) : Int) := by omega
  rw [e]
  exact atI_nat h
theorem reps_ints {O : Own} {H M} : ∀ ns : List Int, Reps O H M (ns.map D.int) (ns.map V.int)
  | [] => rfl
  | n :: ns => ⟨_, _, rfl, rfl, reps_ints ns⟩
/-- a law's end: its def keeps the promise over the script -/
theorem walkD {l : PySem.W.OpenLaw} {n k : Nat} {q : Program} {loose : List Str} {XP : (Str → Option Value) → Heap → Prop} {YP : World → Heap → Prop} {d : DefRec} {x : Str} (sp : DSp)
    (hn : l.most = some n) (hn2 : n ≤ sizeLine) (hdf : d.params.defaults = []) (hr : Room k callerA)
    (hs : ∀ (ns : List Int) (M : Mem), ns.length ≤ n → sp [.scr (ns.map D.int)] M (fun r _ => r = .bl true) noX)
    (F : ∀ (w : World) (mg : Str → Option Value) (fa : Addr) (h : Heap), YP w h → h.Ns mainGlobals mg → mg d.name = some (.ref fa) → ∃ (K : PySem.W.Frag) (fd : FuncData) (CR : Addr),
      K.In h ∧ (∀ (s : Shared) (u : Value), BindsTo s fd ⟨[u], []⟩ [(x, u)]) ∧ ∀ base : Heap, K.In base → base.Ns mainGlobals mg → FnOk l.prog w K mg base (L2.CX l.prog w) k fa fd [x] (lSp K CR sp)) :
    PySem.W.WalkO q loose XP YP l.row.toRowW d [] (fun f us => PySem.call f us) := by
  refine Att.attach_call hn hdf fun w s0 s1 mg mb fa o pm cd doc a us ns G Y ho hd hcd hmg hobj hints hlen hg => ?_
  obtain ⟨K, fd, CR, KX, hb, hF⟩ := F w mg fa _ Y G.T.g hmg
  refine law_call KX G.T.g G.T.b G.T.builtins G.T.nolimit hg hobj hints (Nat.le_trans hlen hn2) hr hF hb (fun H hO hS => ?_) fun H e s' ⟨_, _, _, _, _, _, _, _, _, _, _, _, no⟩ => no
  refine ⟨fun _ => False, [.scr (ns.map D.int)], fun _ => none, _, noX, ⟨_, _, rfl, ⟨a, _, rfl, ?_, reps_ints ns⟩, rfl⟩, ⟨fun _ _ e => (by cases e), fun _ (h : False) => h.elim⟩, hs ns _ hlen, fun v H' ⟨r, M', z, g, rr, e⟩ => ?_, fun c d H' l => l.no⟩
  · rcases hS with h | h
    · exact .inl ⟨⟨rfl, id⟩, h⟩
    · exact .inr (.inr h)
  subst e
  exact rr
section
variable {X : Cx} {CR : Addr} {E : DXS} {W : WX} {pos : Pos}
/-- a number, a text at the module's top -/
theorem d_kint {x : Str} {i : Int} (hm : ∃ t, X.mg x = some (.int i t)) (hg : Gl X x := by rfl) (hd : (x == ("__debug__" : Str)) = false := by decide) : PD X (bs X CR E W) (.Name x pos) (dC (.int i)) :=
  let ⟨_, e⟩ := hm; pd_c (pe_glob (v := .int i) hg e ⟨_, rfl⟩ hd) fun _ _ _ => rfl
theorem d_kstr {x z : Str} (hm : ∃ t, X.mg x = some (.str z t)) (hg : Gl X x := by rfl) (hd : (x == ("__debug__" : Str)) = false := by decide) : PD X (bs X CR E W) (.Name x pos) (dC (.str z)) :=
  let ⟨_, e⟩ := hm; pd_c (pe_glob (v := .str z) hg e ⟨_, rfl⟩ hd) fun _ _ _ => rfl
end
/-! fractions: plain laws over Rat -/
theorem gcdN (a b : Int) (h : b ≠ 0) : 0 < Nat.gcd a.natAbs b.natAbs := Nat.gcd_pos_of_pos_right _ (Int.natAbs_pos.mpr h)
/-- what __init__ reckons: the common divisor with the bottom's sign -/
def comm (a b : Int) : Int := if b < 0 then -((Nat.gcd a.natAbs b.natAbs : Nat) : Int) else ((Nat.gcd a.natAbs b.natAbs : Nat) : Int)
theorem comm_ne {a b : Int} (h : b ≠ 0) : comm a b ≠ 0 := by
  have := gcdN a b h
  unfold comm
  split <;> omega
theorem comm_le {a b : Int} (h : b ≠ 0) : (comm a b).natAbs ≤ b.natAbs := by
  have : Nat.gcd a.natAbs b.natAbs ≤ b.natAbs := Nat.le_of_dvd (Int.natAbs_pos.mpr h) (Nat.gcd_dvd_right _ _)
  unfold comm
  split <;> omega
theorem dvd_a (a b : Int) : ((Nat.gcd a.natAbs b.natAbs : Nat) : Int) ∣ a := Int.ofNat_dvd_left.mpr (Nat.gcd_dvd_left _ _)
theorem dvd_b (a b : Int) : ((Nat.gcd a.natAbs b.natAbs : Nat) : Int) ∣ b := Int.ofNat_dvd_left.mpr (Nat.gcd_dvd_right _ _)
theorem fdiv_neg' {a g : Int} (h : g ∣ a) (hg : g ≠ 0) : a.fdiv (-g) = -(a / g) := by
  obtain ⟨c, rfl⟩ := h
  rw [Int.mul_ediv_cancel_left _ hg]
  have e : g * c = (-g) * (-c) := by rw [Int.neg_mul_neg]
  rw [e, Int.mul_fdiv_cancel_left _ (by omega)]
theorem init_num {a b : Int} (h : b ≠ 0) : a.fdiv (comm a b) = (Rat.divInt a b).num := by
  have hg := gcdN a b h
  have e : Int.gcd b a = Nat.gcd a.natAbs b.natAbs := by rw [Int.gcd, Nat.gcd_comm]
  rw [Rat.num_divInt, e]
  unfold comm
  split
  · rename_i n
    rw [Int.sign_eq_neg_one_of_neg n, fdiv_neg' (dvd_a a b) (by omega)]
    rw [Int.neg_one_mul, Int.neg_ediv_of_dvd (dvd_a a b)]
  · rw [Int.sign_eq_one_of_pos (by omega), Int.one_mul, Int.fdiv_eq_ediv_of_dvd (dvd_a a b)]
theorem init_den {a b : Int} (h : b ≠ 0) : b.fdiv (comm a b) = ((Rat.divInt a b).den : Int) := by
  have hg := gcdN a b h
  have e : Int.gcd b a = Nat.gcd a.natAbs b.natAbs := by rw [Int.gcd, Nat.gcd_comm]
  rw [Rat.den_divInt, e, if_neg h]
  unfold comm
  rw [Int.natCast_ediv]
  split
  · rename_i n
    rw [fdiv_neg' (dvd_b a b) (by omega)]
    have : (b.natAbs : Int) = -b := by omega
    rw [this, Int.neg_ediv_of_dvd (dvd_b a b)]
  · rw [Int.fdiv_eq_ediv_of_dvd (dvd_b a b)]
    have : (b.natAbs : Int) = b := by omega
    rw [this]
theorem dne (q : Rat) : (q.den : Int) ≠ 0 := by have := q.den_pos; omega
theorem dpos (q : Rat) : 0 < (q.den : Int) := by have := q.den_pos; omega
theorem q_add (p q : Rat) : Rat.divInt (p.num * q.den + q.num * p.den) (p.den * q.den) = p + q := by
  rw [← Rat.divInt_add_divInt _ _ (dne p) (dne q), Rat.num_divInt_den, Rat.num_divInt_den]
theorem q_sub (p q : Rat) : Rat.divInt (p.num * q.den - q.num * p.den) (p.den * q.den) = p - q := by
  rw [← Rat.divInt_sub_divInt _ _ (dne p) (dne q), Rat.num_divInt_den, Rat.num_divInt_den]
theorem q_mul (p q : Rat) : Rat.divInt (p.num * q.num) (p.den * q.den) = p * q := by
  rw [← Rat.divInt_mul_divInt, Rat.num_divInt_den, Rat.num_divInt_den]
theorem q_neg (p : Rat) : Rat.divInt (-p.num) p.den = -p := by
  rw [← Rat.neg_divInt, Rat.num_divInt_den]
theorem q_num0 {p : Rat} : p.num = 0 ↔ p = 0 := Rat.num_eq_zero
theorem q_over (p q : Rat) (h : q ≠ 0) : Rat.divInt (p.num * q.den) (p.den * q.num) = p / q := by
  have hq : q.num ≠ 0 := fun e => h (q_num0.mp e)
  have e : q = (q.num : Rat) / ((q.den : Int) : Rat) := by rw [← Rat.divInt_eq_div, Rat.num_divInt_den]
  have e2 : p = (p.num : Rat) / ((p.den : Int) : Rat) := by rw [← Rat.divInt_eq_div, Rat.num_divInt_den]
  rw [Rat.divInt_eq_div, Rat.intCast_mul, Rat.intCast_mul]
  have h1 : (q.num : Rat) ≠ 0 := fun e => hq (Rat.intCast_inj.mp (by simpa using e))
  have h2 : ((q.den : Int) : Rat) ≠ 0 := fun e => dne q (Rat.intCast_inj.mp (by simpa using e))
  have h3 : ((p.den : Int) : Rat) ≠ 0 := fun e => dne p (Rat.intCast_inj.mp (by simpa using e))
  generalize hA : (p.num : Rat) = A at *
  generalize hB : ((p.den : Int) : Rat) = B at *
  generalize hC : (q.num : Rat) = C at *
  generalize hD : ((q.den : Int) : Rat) = G at *
  rw [e2, e]
  grind
theorem q_abs (p : Rat) : Rat.divInt (p.num.natAbs : Int) p.den = p.abs := by
  by_cases h : 0 ≤ p.num
  · rw [Int.natAbs_of_nonneg h, Rat.num_divInt_den, Rat.abs_of_nonneg (Rat.num_nonneg.mp h)]
  · have : (p.num.natAbs : Int) = -p.num := by omega
    rw [this, q_neg, Rat.abs_of_nonpos (by
      have : ¬ (0 : Rat) ≤ p := fun e => h (Rat.num_nonneg.mpr e)
      exact Rat.le_of_lt (Rat.not_le.mp this))]
theorem q_eq (p q : Rat) : p = q ↔ p.num = q.num ∧ (p.den : Int) = q.den := ⟨fun h => h ▸ ⟨rfl, rfl⟩, fun ⟨h1, h2⟩ => Rat.ext h1 (by omega)⟩
theorem q_int (n : Int) : Rat.divInt n 1 = (n : Rat) := by rw [Rat.divInt_eq_div]; grind
/-! ### sizes -/
/-- at most n bits above and below -/
def Bt (n : Nat) (q : Rat) : Prop := q.num.natAbs ≤ 2 ^ n ∧ q.den ≤ 2 ^ n
theorem Bt.mono {n m : Nat} {q : Rat} (h : Bt n q) (k : n ≤ m) : Bt m q := ⟨Nat.le_trans h.1 (Nat.pow_le_pow_right (by decide) k), Nat.le_trans h.2 (Nat.pow_le_pow_right (by decide) k)⟩
theorem bt_div {n : Nat} {a b : Int} (ha : a.natAbs ≤ 2 ^ n) (hb : b.natAbs ≤ 2 ^ n) : Bt n (Rat.divInt a b) := by
  by_cases h : b = 0
  · subst h
    rw [Rat.divInt_zero]
    exact ⟨Nat.zero_le _, Nat.one_le_two_pow⟩
  · have e1 := init_num (a := a) h
    have e2 := init_den (a := a) h
    have k : ∀ x : Int, ∀ g : Int, g ≠ 0 → (g ∣ x) → (x.fdiv g).natAbs ≤ x.natAbs := fun x g hg ⟨c, hc⟩ => by
      subst hc
      rw [Int.mul_fdiv_cancel_left _ hg, Int.natAbs_mul]
      exact Nat.le_mul_of_pos_left _ (Int.natAbs_pos.mpr hg)
    have d : ∀ x : Int, ((Nat.gcd a.natAbs b.natAbs : Nat) : Int) ∣ x → comm a b ∣ x := fun x hx => by
      unfold comm
      split
      · exact Int.neg_dvd.mpr hx
      · exact hx
    refine ⟨?_, ?_⟩
    · rw [← e1]
      exact Nat.le_trans (k _ _ (comm_ne h) (d _ (dvd_a a b))) ha
    · have := k _ _ (comm_ne h) (d _ (dvd_b a b))
      rw [e2] at this
      have t : (((Rat.divInt a b).den : Int)).natAbs = (Rat.divInt a b).den := Int.natAbs_natCast _
      omega
theorem pow_add' (n m : Nat) : 2 ^ (n + m) = 2 ^ n * 2 ^ m := Nat.pow_add ..
theorem bt_mul {n m : Nat} {p q : Rat} (hp : Bt n p) (hq : Bt m q) : Bt (n + m) (p * q) := by
  rw [← q_mul]
  refine bt_div ?_ ?_
  · rw [Int.natAbs_mul, pow_add']; exact Nat.mul_le_mul hp.1 hq.1
  · rw [Int.natAbs_mul, pow_add']; exact Nat.mul_le_mul (by simpa using hp.2) (by simpa using hq.2)
theorem bt_add {n m : Nat} {p q : Rat} (hp : Bt n p) (hq : Bt m q) : Bt (n + m + 1) (p + q) := by
  rw [← q_add]
  have h1 : (p.num * q.den).natAbs ≤ 2 ^ (n + m) := by rw [Int.natAbs_mul, pow_add']; exact Nat.mul_le_mul hp.1 (by simpa using hq.2)
  have h2 : (q.num * p.den).natAbs ≤ 2 ^ (n + m) := by rw [Int.natAbs_mul, pow_add', Nat.mul_comm]; exact Nat.mul_le_mul (by simpa using hp.2) hq.1
  have h3 : ((p.den : Int) * q.den).natAbs ≤ 2 ^ (n + m) := by rw [Int.natAbs_mul, pow_add']; exact Nat.mul_le_mul (by simpa using hp.2) (by simpa using hq.2)
  have e : 2 ^ (n + m + 1) = 2 ^ (n + m) + 2 ^ (n + m) := by rw [Nat.pow_succ]; omega
  refine bt_div ?_ ?_
  · rw [e]; omega
  · rw [e]; omega
theorem bt_neg {n : Nat} {p : Rat} (hp : Bt n p) : Bt n (-p) := by
  rw [← q_neg]
  exact bt_div (by rw [Int.natAbs_neg]; exact hp.1) (by simpa using hp.2)
theorem bt_abs {n : Nat} {p : Rat} (hp : Bt n p) : Bt n p.abs := by
  rw [← q_abs]
  exact bt_div (by rw [Int.natAbs_natCast]; exact hp.1) (by simpa using hp.2)
theorem bt_sub {n m : Nat} {p q : Rat} (hp : Bt n p) (hq : Bt m q) : Bt (n + m + 1) (p - q) := by
  rw [Rat.sub_eq_add_neg]; exact bt_add hp (bt_neg hq)
theorem bt_over {n m : Nat} {p q : Rat} (hp : Bt n p) (hq : Bt m q) : Bt (n + m) (p / q) := by
  by_cases h : q = 0
  · subst h
    rw [Rat.div_def, Rat.inv_zero, Rat.mul_zero]
    exact ⟨Nat.zero_le _, Nat.one_le_two_pow⟩
  · rw [← q_over p q h]
    refine bt_div ?_ ?_
    · rw [Int.natAbs_mul, pow_add']; exact Nat.mul_le_mul hp.1 (by simpa using hq.2)
    · rw [Int.natAbs_mul, pow_add']; exact Nat.mul_le_mul (by simpa using hp.2) hq.1
theorem bt_int {n : Nat} {i : Int} (h : i.natAbs ≤ 2 ^ n) : Bt n (i : Rat) := ⟨by rw [Rat.num_intCast]; exact h, by rw [Rat.den_intCast]; exact Nat.one_le_two_pow⟩
/-! ### fractions: fields, the making -/
section
variable {X : Cx} {CR : Addr} {E : DXS} {W : WX} {pos : Pos}
/-- a statement that is never reached -/
def dNever : DSt := fun _ _ _ => False
theorem s_never {st : Stmt} : PDS X (bs X CR E W) st dNever := ⟨fun p s σ H Dn I h => by obtain ⟨_, _, _, _, _, _, _, h, _⟩ := h; exact h.elim⟩
def dTop (w : DE) : DE := fun δ M Q => w δ M fun d M1 => ∃ q, d = .rat q ∧ Q (.int q.num) M1
def dBot (w : DE) : DE := fun δ M Q => w δ M fun d M1 => ∃ q, d = .rat q ∧ Q (.int q.den) M1
theorem d_top {e : Expr} {w : DE} (c : Cls X.K CR) (n : NoAttr X.K CR "top") (he : PD X (bs X CR E W) e w) (hb : attributeBase e "top" X.env (eval e X.env) = eval e X.env := by rfl) : PD X (bs X CR E W) (.Attribute e "top" pos) (dTop w) := by
  refine (pe_fld he hb).imp fun σ H Q h => ?_
  obtain ⟨P, δ, M, Qd, hS, g, x, w, k⟩ := h
  refine ⟨P, δ, M, _, hS, g, x, w, fun v H1 ⟨d, M1, z, g1, r, q, hd, hq⟩ => ?_⟩
  subst hd
  obtain ⟨a, dx, ev, _, ea⟩ := r
  exact ⟨a, CR, dx, _, .int q.num, ev, ea, c, n, rfl, k _ _ ⟨.int q.num, M1, z, g1, rfl, hq⟩⟩
theorem d_bot {e : Expr} {w : DE} (c : Cls X.K CR) (n : NoAttr X.K CR "bottom") (he : PD X (bs X CR E W) e w) (hb : attributeBase e "bottom" X.env (eval e X.env) = eval e X.env := by rfl) : PD X (bs X CR E W) (.Attribute e "bottom" pos) (dBot w) := by
  refine (pe_fld he hb).imp fun σ H Q h => ?_
  obtain ⟨P, δ, M, Qd, hS, g, x, w, k⟩ := h
  refine ⟨P, δ, M, _, hS, g, x, w, fun v H1 ⟨d, M1, z, g1, r, q, hd, hq⟩ => ?_⟩
  subst hd
  obtain ⟨a, dx, ev, _, ea⟩ := r
  exact ⟨a, CR, dx, _, .int q.den, ev, ea, c, n, rfl, k _ _ ⟨.int q.den, M1, z, g1, rfl, hq⟩⟩
/-- o.f = value: a new field at the end, or another value of one that is there -/
inductive PutN (f : Str) (d : D) : List Str → List D → List Str → List D → Prop where
  | new {ns xs} (h : f ∉ ns) : PutN f d ns xs (ns ++ [f]) (xs ++ [d])
  | old {ns xs} (i : Nat) (h : ns[i]? = some f) (hn : ∀ j, j < i → ns[j]? ≠ some f) : PutN f d ns xs ns (xs.set i d)
theorem putF_new {f : Str} {v : V} : ∀ {ns : List Str} {vs : List V}, f ∉ ns → ns.length = vs.length → putF f v (ns.zip vs) = (ns ++ [f]).zip (vs ++ [v])
  | [], [], _, _ => rfl
  | [], _ :: _, _, h => by cases h
  | _ :: _, [], _, h => by cases h
  | n :: ns, x :: vs, h, hl => by
    have h1 : ¬ n = f := fun e => h (e ▸ List.mem_cons_self)
    show putF f v ((n, x) :: ns.zip vs) = (n, x) :: (ns ++ [f]).zip (vs ++ [v])
    unfold putF
    rw [if_neg h1, putF_new (fun m => h (List.mem_cons_of_mem _ m)) (by simpa using hl)]
theorem putF_old {f : Str} {v : V} : ∀ {ns : List Str} {vs : List V} (i : Nat), ns[i]? = some f → (∀ j, j < i → ns[j]? ≠ some f) → ns.length = vs.length → putF f v (ns.zip vs) = ns.zip (vs.set i v)
  | [], _, _, h, _, _ => by simp at h
  | _ :: _, [], _, _, _, h => by cases h
  | n :: ns, x :: vs, i, h, hn, hl => by
    show putF f v ((n, x) :: ns.zip vs) = _
    unfold putF
    cases i with
    | zero =>
      simp at h
      rw [if_pos h]; rfl
    | succ i =>
      have h1 : ¬ n = f := fun e => hn 0 (by omega) (by simp [e])
      rw [if_neg h1, putF_old i (by simpa using h) (fun j hj => by simpa using hn (j + 1) (by omega)) (by simpa using hl)]
      rfl
def dFldSet (okC : Addr → Prop) (f : Str) (wo wv : DE) : DSt := fun Dn δ M => wv δ M fun y M1 => wo δ M1 fun x M2 => ∃ p C ns xs ns' xs', x = .ref p ∧ M2 p = some (.ins C ns xs) ∧ okC C ∧ ns.length < 1000 ∧ ns.length = xs.length ∧ PutN f y ns xs ns' xs' ∧ Dn.nx δ (mput M2 p (.ins C ns' xs'))
theorem s_fld {o value : Expr} {wo wv : DE} {okC : Addr → Prop} {f : Str} {pos' : Pos} (hC : ∀ C, okC C → Cls X.K C ∧ NoAttr X.K C f) (ho : PD X (bs X CR E W) o wo) (hv : PD X (bs X CR E W) value wv)
    (hs : swapsWith value (some (.Attribute o f pos')) pos.line X.env = pure false := by rfl) : PDS X (bs X CR E W) (.Assign [.Attribute o f pos'] value pos) (dFldSet okC f wo wv) := by
  refine (ps_fld ho hv hs).imp fun Dn σ H h => ?_
  obtain ⟨P, δ, M, Dd, hS, g, x, w, k⟩ := h
  refine ⟨P, δ, M, _, hS, g, x, w, fun vy H1 ⟨y, M1, z1, g1, ry, q1⟩ => ⟨P, δ, M1, _, hS.mono z1, g1, x.trans z1, q1, fun vx H2 ⟨xd, M2, z2, g2, rx, p, C, ns, xs, ns', xs', ex, em, ok, hl, hl2, pt, q2⟩ => ?_⟩⟩
  subst ex
  obtain ⟨dx, vs, e1, l1, rs⟩ := g2.at_ p _ em
  obtain ⟨c, n⟩ := hC C ok
  have ry2 := ry.mono z2
  have lz : (ns.zip vs).length < 1000 := by rw [List.length_zip, ← l1]; omega
  refine ⟨p, C, dx, ns.zip vs, rx, e1, c, n, lz, ?_⟩
  have z3 : Fz ⟨X.K, CR, P⟩ H2 M2 (upd H2 p (.ins C dx (putF f vy (ns.zip vs)))) (mput M2 p (.ins C ns' xs')) := fz_put g2 em
  refine k.nx σ _ ⟨δ, _, (z1.trans z2).trans z3, good_put g2 (g2.noP em) z3 ?_, ((hS.mono z1).mono z2).mono z3, q2⟩
  cases pt with
  | new h => exact ⟨dx, vs ++ [vy], by rw [upd_same, putF_new h l1], by rw [List.length_append, List.length_append, l1]; rfl, (rs.mono z3).append (Reps.one (ry2.mono z3))⟩
  | old i h hn => exact ⟨dx, vs.set i vy, by rw [upd_same, putF_old i h hn l1], by rw [List.length_set, l1], Reps.set (ry2.mono z3) i (rs.mono z3)⟩
/-! ### Ratio(..) -/
def szB (_ : Int) : Prop := True
def CFb (_ j : Int) : Prop := j ≠ 0
def rFdivB : D2 := rI2 CFb fun i j => .int (i.fdiv j)
/-- a division may go by pylong: there is room for it -/
def PyR (X : Cx) : Prop := ∀ (pins : List (Addr × Obj)) (σ : L2.St) (H : Hp) (s : Shared), Inv X pins σ H s → PySem.PylongRoom (model X.prog X.w) X.A s
theorem o_fdivB {X : Cx} {CR : Addr} (p : PyR X) : OpR X (binaryOp .FloorDiv) (l2 X.K CR rFdivB) := ops_int (C := CFb) (g := fun i j => i.fdiv j) fun pins s σ H x y v u Q I rx ry h => by
  obtain ⟨i, j, rfl, rfl, hc, q⟩ := h
  obtain ⟨t, rfl⟩ := rx
  obtain ⟨t', rfl⟩ := ry
  exact floordiv_int hc ⟨.int (i.fdiv j), H, I.tok _, ⟨_, rfl⟩, q⟩ (.inr (p pins σ H s I))
end
def sp_init (CR : Addr) : DSp := fun ds M Q _ => ∃ (p : Addr) (a b : Int), ds = [.ref p, .int a, .int b] ∧ M p = some (.ins CR [] []) ∧ b ≠ 0 ∧ szB b ∧ Q .non (mput M p (.ins CR ["top", "bottom"] [.int (Rat.divInt a b).num, .int (Rat.divInt a b).den]))
def MkD : List D → Mem → DK → Prop := fun ds M Q => match ds with
  | [.int a] => Q (.rat (a : Rat)) M
  | [.int a, .int b] => b ≠ 0 ∧ szB b ∧ Q (.rat (Rat.divInt a b)) M
  | _ => False
def dMk (t : DA) : DE := fun δ M Q => t δ M fun ds M1 => MkD ds M1 Q
/-- Ratio's __init__: with a bottom, without one -/
structure MkOk (P : Program) (w : World) (K : PySem.W.Frag) (mg : Str → Option Value) (base : Heap) (CR : Addr) : Prop where
  ex : ∃ f fd d1, Mk K CR f ∧ FnOk P w K mg base (L2.CX P w) 36 f fd ["self", "top", "bottom"] (lSp K CR (sp_init CR)) ∧ Binds K fd ["self", "top", "bottom"] [] ∧ Binds K fd ["self", "top", "bottom"] [d1] ∧ Vals [V.int 1] [d1]
theorem MkD.cases {ds : List D} {M : Mem} {Q : DK} (h : MkD ds M Q) : ∃ (a b : Int), b ≠ 0 ∧ szB b ∧ (ds = [.int a, .int b] ∨ (ds = [.int a] ∧ b = 1)) ∧ Q (.rat (Rat.divInt a b)) M := by
  unfold MkD at h
  split at h
  · exact ⟨_, 1, by decide, trivial, .inr ⟨rfl, rfl⟩, by rw [q_int]; exact h⟩
  · exact ⟨_, _, h.1, h.2.1, .inl rfl, h.2.2⟩
  · exact h.elim
section
variable {X : Cx} {CR : Addr} {E : DXS} {W : WX} {pos p : Pos} {e : Expr} {es : List Expr} {t : DA}
/-- a new instance is one of the memory until it is let go -/
theorem make_end {P : Addr → Prop} {H M} {Q : VK} {Qd : DK} {vs dvs : List V} {a b : Int} (g : Good ⟨X.K, CR, P⟩ H M) (rs : Reps ⟨X.K, CR, P⟩ H M [.int a, .int b] (vs ++ dvs)) (hb : b ≠ 0) (hz : szB b) (q : Qd (.rat (Rat.divInt a b)) M)
    (k : ∀ v H', LfV ⟨X.K, CR, P⟩ H M Qd v H' → Q v H') : ∀ x dx, H x = none → H dx = none → dx ≠ x →
      lSp X.K CR (sp_init CR) (.ref x :: (vs ++ dvs)) (upd (upd H dx (.own x)) x (.ins CR dx [])) (fun v H2 => v = .non ∧ Q (.ref x) H2) E0 := by
  intro x dx hx hd hne
  have z1 : Fz ⟨X.K, CR, P⟩ H M (upd H dx (.own x)) M := fz_new g hd
  have g1 : Good ⟨X.K, CR, P⟩ (upd H dx (.own x)) M := good_new g hd
  have hx1 : upd H dx (.own x) x = none := by rw [upd_ne (Ne.symm hne)]; exact hx
  have z2 : Fz ⟨X.K, CR, P⟩ (upd H dx (.own x)) M (upd (upd H dx (.own x)) x (.ins CR dx [])) (mput M x (.ins CR [] [])) := fz_newM g1 hx1
  have fx := g.none hx
  have g2 : Good ⟨X.K, CR, P⟩ (upd (upd H dx (.own x)) x (.ins CR dx [])) (mput M x (.ins CR [] [])) := good_put g1 fx.2 z2 ⟨dx, [], upd_same, rfl, rfl⟩
  refine ⟨P, .ref x :: [.int a, .int b], mput M x (.ins CR [] []), fun d M2 => d = .non ∧ M2 = mput M x (.ins CR ["top", "bottom"] [.int (Rat.divInt a b).num, .int (Rat.divInt a b).den]), noX, ⟨_, _, rfl, rfl, (rs.mono z1).mono z2⟩, g2, ⟨x, a, b, rfl, mput_same, hb, hz, rfl, by rw [mput_mput]⟩, ?_, fun c d H' l => l.no⟩
  rintro v H' ⟨d, M2, z, g3, r, rfl, rfl⟩
  refine ⟨r, k _ _ ⟨.rat (Rat.divInt a b), mdel _ x, ((z1.trans z2).trans z).trans fz_del, good_del g3, ?_, by rw [mdel_mput fx.1]; exact q⟩⟩
  obtain ⟨dx', ws, e1, l1, rw1⟩ := g3.at_ x _ mput_same
  obtain ⟨v1, r1, rfl, h1, v2, r2, rfl, h2, h3⟩ := rw1
  rw [show r2 = [] from h3, show v1 = .int _ from h1, show v2 = .int _ from h2] at e1
  exact ⟨x, dx', rfl, ⟨mdel_same, fx.2⟩, e1⟩
theorem MkOk.d_mk {x : Str} (T : MkOk X.prog X.w X.K X.mg X.base CR) (hm : X.mg x = some (.ref CR)) (hr : Room 37 X.A) (ha : PDA X (bs X CR E W) (e :: es) t) (hg : Gl X x := by rfl)
    (hdb : (x == ("__debug__" : Str)) = false := by decide) (he : starEach (e :: es) X.env = (false, eval e X.env) :: starEach es X.env := by rfl) (hpl : (backTo pos (starEach es X.env)).any (·.1) = false := by rfl) : PD X (bs X CR E W) (.Call (.Name x p) (e :: es) [] pos) (dMk t) := by
  obtain ⟨f, fd, d1, mk, F, b0, b1, v1⟩ := T.ex
  refine ⟨fun pins s σ H Q I h => ?_⟩
  refine wpAny_Call_Name_kw (ld_glob I hg hm ?_ hdb)
  refine PySem.W.callWith_K (h₀ := X.base) I.ok.mod.kin mk.kp (thn (ha.run pos pins s σ H (fun vs H1 => ∃ (P : Addr → Prop) (ds : List D) (M1 : Mem) (Qd : DK), Good ⟨X.K, CR, P⟩ H1 M1 ∧ Reps ⟨X.K, CR, P⟩ H1 M1 ds vs ∧ MkD ds M1 Qd ∧ ∀ v H', LfV ⟨X.K, CR, P⟩ H1 M1 Qd v H' → Q v H') I ?_) fun us s1 ⟨vs, H1, I1, r, q⟩ => ⟨I1.kIn, ?_⟩) he hpl
  · obtain ⟨P, δ, M, Qd, hS, g, x, w, k⟩ := h
    exact ⟨P, δ, M, _, hS, g, x, w, fun vs H1 ds M1 z1 g1 rs q => ⟨P, ds, M1, Qd, g1, rs, q, fun v H' l => k v H' (l.trans z1)⟩⟩
  · obtain ⟨P, ds, M1, Qd, g1, rs, q, k⟩ := q
    obtain ⟨a, b, hb, hz, rfl | ⟨rfl, rfl⟩, q3⟩ := q.cases
    · exact run_make mk F hr b0 .nil passL I1 r (make_end (vs := vs) (dvs := []) g1 (by rw [List.append_nil]; exact rs) hb hz q3 k)
    · exact run_make mk F hr b1 v1 passL I1 r (make_end (vs := vs) (dvs := [V.int 1]) g1 (rs.append (Reps.one (d := .int 1) rfl)) hb hz q3 k)
end
/-! ### fractions: the class's own operators -/
/-- a method of two, of one -/
structure Op2 (P : Program) (w : World) (K : PySem.W.Frag) (mg : Str → Option Value) (base : Heap) (CR : Addr) (name : Str) (sp : DSp) : Prop where
  ex : ∃ f fd, FnOk P w K mg base (L2.CX P w) 38 f fd ["self", "other"] (lSp K CR sp) ∧ Binds K fd ["self", "other"] [] ∧ PySem.W.findIn K (.ref CR) name = some (some (.ref f)) ∧ PySem.W.isFn K (.ref f) = true
structure Op1 (P : Program) (w : World) (K : PySem.W.Frag) (mg : Str → Option Value) (base : Heap) (CR : Addr) (name : Str) (sp : DSp) : Prop where
  ex : ∃ f fd, FnOk P w K mg base (L2.CX P w) 38 f fd ["self"] (lSp K CR sp) ∧ Binds K fd ["self"] [] ∧ PySem.W.findIn K (.ref CR) name = some (some (.ref f)) ∧ PySem.W.isFn K (.ref f) = true
section
variable {X : Cx} {CR : Addr} {pins : List (Addr × Obj)} {σ : L2.St} {s : Shared}
theorem cmpBack {H : Hp} {Q : VK} {u : Value} {s' : Shared} (h : EP X pins σ Q u s') : PySem.W.CmpBack (EP X pins σ Q) u s' := by
  obtain ⟨v, H', I, r, q⟩ := id h
  cases v with
  | non => rw [show u = _ from r] at h ⊢; exact h
  | bl b => rw [show u = _ from r] at h ⊢; exact h
  | int i => obtain ⟨t, e⟩ := (show ∃ t, u = Value.int i t from r); rw [e] at h ⊢; exact h
  | str i => obtain ⟨t, e⟩ := (show ∃ t, u = Value.str i t from r); rw [e] at h ⊢; exact h
  | byt i => obtain ⟨t, e⟩ := (show ∃ t, u = Value.bytes i t from r); rw [e] at h ⊢; exact h
  | flt i => obtain ⟨t, e⟩ := (show ∃ t, u = Value.float i t from r); rw [e] at h ⊢; exact h
  | ref i => rw [show u = _ from r] at h ⊢; exact h
  | ty i => rw [show u = _ from r] at h ⊢; exact h
/-- what the two-place rules tell: two fractions, the method's promise -/
def r2 (sp : DSp) : D2 := fun a b M Q => ∃ p q, a = .rat p ∧ b = .rat q ∧ sp [.rat p, .rat q] M Q noX
theorem lSp_of {P : Addr → Prop} {H M} {ds : List D} {vs : List V} {sp : DSp} {Q : VK} {Qd : DK} (g : Good ⟨X.K, CR, P⟩ H M) (rs : Reps ⟨X.K, CR, P⟩ H M ds vs) (h : sp ds M Qd noX) (k : ∀ v H', LfV ⟨X.K, CR, P⟩ H M Qd v H' → Q v H') : lSp X.K CR sp vs H Q E0 :=
  ⟨P, ds, M, Qd, noX, rs, g, h, k, fun c d H' l => l.no⟩
theorem o_bin {op : Operator} {name : Str} {sp : DSp} (O : Op2 X.prog X.w X.K X.mg X.base CR name sp) (hn : name = PySem.dunder op.info.2) (hr : Room 38 X.A) (hc : PySem.W.selfFirst X.K CR = true) : OpR X (binaryOp op) (l2 X.K CR (r2 sp)) := by
  intro pins s σ H x y v u Q I rx ry ⟨P, a, b, M, Qd, ra, rb, g, ⟨p, q, ea, eb, h⟩, k⟩
  subst ea; subst eb; subst hn
  obtain ⟨f, fd, F, hb, hs, hf⟩ := O.ex
  have rs : Reps ⟨X.K, CR, P⟩ H M [.rat p, .rat q] [x, y] := ⟨_, _, rfl, ra, _, _, rfl, rb, rfl⟩
  obtain ⟨a, dx, rfl, _, ha⟩ := ra
  obtain ⟨b, dy, rfl, _, hb'⟩ := rb
  obtain rfl : v = Value.ref a := rx
  obtain rfl : u = Value.ref b := ry
  obtain ⟨mA, J, _⟩ := ins_get I.hok ha
  obtain ⟨mB, J', _⟩ := ins_get I.hok hb'
  obtain ⟨od, J, _⟩ := J.look
  obtain ⟨od', J', _⟩ := J'.look
  obtain ⟨m, hF⟩ := I.fr
  refine PySem.W.binop_K hF I.ok.mod.kin J J'.type hc hs hf ?_
  exact wpAny_mono (run_fn (vs := [.ref a, .ref b]) (us := [.ref a, .ref b]) (dvs := []) F hr hb .nil passL I (.cons rfl (.cons rfl .nil)) (lSp_of g rs h k)) (fun r s' q => cmpBack (H := H) q) fun _ _ z => z
theorem o_cmpR {op : CmpOp} {name : Str} {sp : DSp} (O : Op2 X.prog X.w X.K X.mg X.base CR name sp) (hn : name = (cmpInfo op).2.1) (hr : Room 38 X.A) : OpR X (richCompare op) (l2 X.K CR (r2 sp)) := by
  intro pins s σ H x y v u Q I rx ry ⟨P, a, b, M, Qd, ra, rb, g, ⟨p, q, ea, eb, h⟩, k⟩
  subst ea; subst eb; subst hn
  obtain ⟨f, fd, F, hb, hs, hf⟩ := O.ex
  have rs : Reps ⟨X.K, CR, P⟩ H M [.rat p, .rat q] [x, y] := ⟨_, _, rfl, ra, _, _, rfl, rb, rfl⟩
  obtain ⟨a, dx, rfl, _, ha⟩ := ra
  obtain ⟨b, dy, rfl, _, hb'⟩ := rb
  obtain rfl : v = Value.ref a := rx
  obtain rfl : u = Value.ref b := ry
  obtain ⟨mA, J, _⟩ := ins_get I.hok ha
  obtain ⟨mB, J', _⟩ := ins_get I.hok hb'
  obtain ⟨od, J, _⟩ := J.look
  obtain ⟨od', J', _⟩ := J'.look
  obtain ⟨m, hF⟩ := I.fr
  refine PySem.W.cmp_K hr.units0 hF I.ok.mod.kin J J'.type (by simp [PySem.W.notFirst]) hs hf ?_
  exact wpAny_mono (run_fn (vs := [.ref a, .ref b]) (us := [.ref a, .ref b]) (dvs := []) F hr hb .nil passL I (.cons rfl (.cons rfl .nil)) (lSp_of g rs h k)) (fun r s' q => cmpBack (H := H) q) fun _ _ z => z
def r1 (sp : DSp) : D1 := fun a M Q => ∃ p, a = .rat p ∧ sp [.rat p] M Q noX
theorem o_negR {sp : DSp} (O : Op1 X.prog X.w X.K X.mg X.base CR "__neg__" sp) (hr : Room 38 X.A) : UnR X (unaryOp .USub) (l1 X.K CR (r1 sp)) := by
  intro pins s σ H x v Q I rx ⟨P, a, M, Qd, ra, g, ⟨p, ea, h⟩, k⟩
  subst ea
  obtain ⟨f, fd, F, hb, hs, hf⟩ := O.ex
  have rs : Reps ⟨X.K, CR, P⟩ H M [.rat p] [x] := ⟨_, _, rfl, ra, rfl⟩
  obtain ⟨a, dx, rfl, _, ha⟩ := ra
  obtain rfl : v = Value.ref a := rx
  obtain ⟨mA, J, _⟩ := ins_get I.hok ha
  obtain ⟨od, J, _⟩ := J.look
  obtain ⟨m, hF⟩ := I.fr
  refine PySem.W.ksp_neg hF I.ok.mod.kin J hs hf ?_
  exact run_fn (vs := [.ref a]) (us := [.ref a]) (dvs := []) F hr hb .nil passL I (.cons rfl .nil) (lSp_of g rs h k)
end
/-! ### what the methods promise -/
def Sm (q : Rat) : Prop := Bt 16000000 q
def sp_add : DSp := fun ds M Q _ => ∃ p q, ds = [.rat p, .rat q] ∧ Sm p ∧ Sm q ∧ Q (.rat (p + q)) M
def sp_sub : DSp := fun ds M Q _ => ∃ p q, ds = [.rat p, .rat q] ∧ Sm p ∧ Sm q ∧ Q (.rat (p - q)) M
def sp_mul : DSp := fun ds M Q _ => ∃ p q, ds = [.rat p, .rat q] ∧ Sm p ∧ Sm q ∧ Q (.rat (p * q)) M
def sp_neg : DSp := fun ds M Q _ => ∃ p, ds = [.rat p] ∧ Sm p ∧ Q (.rat (-p)) M
def sp_abs : DSp := fun ds M Q _ => ∃ p, ds = [.rat p] ∧ Sm p ∧ Q (.rat p.abs) M
def sp_lt : DSp := fun ds M Q _ => ∃ p q, ds = [.rat p, .rat q] ∧ Sm p ∧ Sm q ∧ Q (.bl (decide (p < q))) M
def sp_le : DSp := fun ds M Q _ => ∃ p q, ds = [.rat p, .rat q] ∧ Sm p ∧ Sm q ∧ Q (.bl (decide (p ≤ q))) M
def sp_gt : DSp := fun ds M Q _ => ∃ p q, ds = [.rat p, .rat q] ∧ Sm p ∧ Sm q ∧ Q (.bl (decide (q < p))) M
def sp_ge : DSp := fun ds M Q _ => ∃ p q, ds = [.rat p, .rat q] ∧ Sm p ∧ Sm q ∧ Q (.bl (decide (q ≤ p))) M
/-- a fraction and another thing: == -/
def eqB (p : Rat) : D → Option Bool
  | .rat q => some (decide (p = q))
  | .int _ => some false
  | .str _ => some false
  | .non => some false
  | .bl _ => some false
  | _ => none
def sp_eq : DSp := fun ds M Q _ => ∃ p d r, ds = [.rat p, d] ∧ eqB p d = some r ∧ Q (.bl r) M
/-! ### the class as the rules want it -/
def tyNs : List String := ["int", "bool", "str", "tuple", "list", "NoneType"]
structure IsF (K : PySem.W.Frag) (CR : Addr) : Prop where
  cc : PySem.W.findIn K (.ref CR) "__class__" = some (some (.builtin "object.__class__"))
  cg : PySem.W.specialIn K (.builtin "object.__class__") "__get__" = some (some (.builtin "getset_descriptor.__get__"))
  ct : PySem.W.takesIn K (.builtin "object.__class__") = some true
  cm : PySem.W.mroIn K CR (.type "object") = some true
  ne : PySem.W.findIn K (.ref CR) "__ne__" = some (some (.builtin "object.__ne__"))
  no : ∀ n, n ∈ tyNs → PySem.W.kitOne K (.type n) (.ref CR) = some false
  nt : ∀ n, n ∈ tyNs → PySem.W.kitOne K (.ref CR) (.type n) = some false
structure RatT0 (P : Program) (w : World) (K : PySem.W.Frag) (mg : Str → Option Value) (base : Heap) (CR : Addr) : Prop where
  cls : Cls K CR
  nt : NoAttr K CR "top"
  nb : NoAttr K CR "bottom"
  g : mg "Ratio" = some (.ref CR)
  first : PySem.W.selfFirst K CR = true
  isf : IsF K CR
  ini : MkOk P w K mg base CR
structure RatT (P : Program) (w : World) (K : PySem.W.Frag) (mg : Str → Option Value) (base : Heap) (CR : Addr) : Prop extends RatT0 P w K mg base CR where
  add : Op2 P w K mg base CR "__add__" sp_add
  sub : Op2 P w K mg base CR "__sub__" sp_sub
  mul : Op2 P w K mg base CR "__mul__" sp_mul
  neg : Op1 P w K mg base CR "__neg__" sp_neg
  eq : Op2 P w K mg base CR "__eq__" sp_eq
  lt : Op2 P w K mg base CR "__lt__" sp_lt
  le : Op2 P w K mg base CR "__le__" sp_le
  gt : Op2 P w K mg base CR "__gt__" sp_gt
  ge : Op2 P w K mg base CR "__ge__" sp_ge
  abs : Op1 P w K mg base CR "__abs__" sp_abs
def rAdd : D2 := fun a b M Q => match a, b with
  | .rat p, .rat q => Sm p ∧ Sm q ∧ Q (.rat (p + q)) M
  | a, b => rAddP a b M Q
def rSub : D2 := fun a b M Q => match a, b with
  | .rat p, .rat q => Sm p ∧ Sm q ∧ Q (.rat (p - q)) M
  | a, b => rSubI a b M Q
def rMul : D2 := fun a b M Q => match a, b with
  | .rat p, .rat q => Sm p ∧ Sm q ∧ Q (.rat (p * q)) M
  | .lst xs, .int n => -(2 ^ 63) ≤ n ∧ n < 2 ^ 63 ∧ xs.length * n.toNat ≤ sizeLine ∧ Q (.lst (List.replicate n.toNat xs).flatten) M
  | a, b => rMulI a b M Q
theorem reps_rep {O : Own} {H M} {ds : List D} {vs : List V} (h : Reps O H M ds vs) : ∀ n : Nat, Reps O H M (List.replicate n ds).flatten (List.replicate n vs).flatten
  | 0 => rfl
  | n + 1 => by rw [List.replicate_succ, List.replicate_succ, List.flatten_cons, List.flatten_cons]; exact h.append (reps_rep h n)
def rNegA : D1 := fun a M Q => match a with
  | .rat p => Sm p ∧ Q (.rat (-p)) M
  | a => rNeg a M Q
def rEqA : D2 := fun a b M Q => match a with
  | .rat p => ∃ r, eqB p b = some r ∧ Q (.bl r) M
  | a => rEqP a b M Q
def rLtA : D2 := fun a b M Q => match a, b with
  | .rat p, .rat q => Sm p ∧ Sm q ∧ Q (.bl (decide (p < q))) M
  | a, b => rLt a b M Q
def rLeA : D2 := fun a b M Q => match a, b with
  | .rat p, .rat q => Sm p ∧ Sm q ∧ Q (.bl (decide (p ≤ q))) M
  | a, b => rLe a b M Q
def rGtA : D2 := fun a b M Q => match a, b with
  | .rat p, .rat q => Sm p ∧ Sm q ∧ Q (.bl (decide (q < p))) M
  | a, b => rGt a b M Q
def rGeA : D2 := fun a b M Q => match a, b with
  | .rat p, .rat q => Sm p ∧ Sm q ∧ Q (.bl (decide (q ≤ p))) M
  | a, b => rGe a b M Q
section
variable {X : Cx} {CR : Addr} {pins : List (Addr × Obj)} {σ : L2.St} {s : Shared} {k : Nat}
theorem IsF.sub {K : PySem.W.Frag} (c : IsF K CR) {n : String} (h : n ∈ tyNs) : PySem.W.notFirst K CR (.type n) = true := by
  have := c.no n h
  unfold PySem.W.kitOne PySem.W.kitCls at this
  rw [if_neg (by simp)] at this
  dsimp only at this
  split at this
  · unfold PySem.W.notFirst
    rw [this]; simp
  · cases this
/-- the second one's type -/
theorem eqB_look {P : Addr → Prop} {H M} {p : Rat} {d : D} {r : Bool} {y : V} {u : Value} (c : IsF X.K CR) (I : Inv X pins σ H s) (ry : RelV y u) (rb : Rep ⟨X.K, CR, P⟩ H M d y) (h : eqB p d = some r) :
    ∃ tb, PySem.W.Looks (model X.prog X.w) s.heap (typeOf u) tb ∧ PySem.W.notFirst X.K CR tb = true := by
  cases d with
  | rat q =>
    obtain ⟨b, dy, rfl, _, hb⟩ := rb
    obtain rfl : u = Value.ref b := ry
    obtain ⟨mB, J, _⟩ := ins_get I.hok hb
    obtain ⟨od, J, _⟩ := J.look
    exact ⟨_, J.type, by simp [PySem.W.notFirst]⟩
  | int i =>
    rw [show y = .int i from rb] at ry
    obtain ⟨t, rfl⟩ := (show ∃ t, u = Value.int i t from ry)
    exact ⟨.type "int", PySem.W.Looks.of_pure rfl, c.sub (by decide)⟩
  | str i =>
    rw [show y = .str i from rb] at ry
    obtain ⟨t, rfl⟩ := (show ∃ t, u = Value.str i t from ry)
    exact ⟨.type "str", PySem.W.Looks.of_pure rfl, c.sub (by decide)⟩
  | non =>
    rw [show y = .non from rb] at ry
    obtain rfl : u = Value.none := ry
    exact ⟨.type "NoneType", PySem.W.Looks.of_pure rfl, c.sub (by decide)⟩
  | bl i =>
    rw [show y = .bl i from rb] at ry
    obtain rfl : u = Value.bool i := ry
    exact ⟨.type "bool", PySem.W.Looks.of_pure rfl, c.sub (by decide)⟩
  | _ => cases h
theorem RatT.o_eq (T : RatT X.prog X.w X.K X.mg X.base CR) (hr : Room k X.A) (hk : 38 ≤ k := by decide) : OpR X (compareOp .Eq) (l2 X.K CR rEqA) := by
  intro pins s σ H x y v u Q I rx ry ⟨P, a, b, M, Qd, ra, rb, g, h, kk⟩
  cases a with
  | rat p =>
    obtain ⟨r, hq, h⟩ := h
    obtain ⟨f, fd, F, hb, hs, hf⟩ := T.eq.ex
    have rs : Reps ⟨X.K, CR, P⟩ H M [.rat p, b] [x, y] := ⟨_, _, rfl, ra, _, _, rfl, rb, rfl⟩
    obtain ⟨tb, lb, nf⟩ := eqB_look T.isf I ry rb hq
    obtain ⟨a, dx, rfl, _, ha⟩ := ra
    obtain rfl : v = Value.ref a := rx
    obtain ⟨mA, J, _⟩ := ins_get I.hok ha
    obtain ⟨od, J, _⟩ := J.look
    obtain ⟨m, hF⟩ := I.fr
    show wpAny (model X.prog X.w) X.A (richCompare .Eq (.ref a) u) (EP X pins σ Q) X.xe s
    refine PySem.W.cmp_K (op := .Eq) hr.units0 hF I.ok.mod.kin J lb nf hs hf ?_
    exact wpAny_mono (run_fn (vs := [.ref a, y]) (us := [.ref a, u]) (dvs := []) F (hr.mono hk) hb .nil passL I (.cons rfl (.cons ry .nil)) (lSp_of g rs ⟨p, b, r, rfl, hq, h⟩ kk)) (fun r s' q => cmpBack (H := H) q) fun _ _ z => z
  | _ => exact o_eqP hr.units pins s σ H x y v u Q I rx ry ⟨P, _, _, M, Qd, ra, rb, g, h, kk⟩
end
section
variable {X : Cx} {CR : Addr} {E : DXS} {W : WX} {pos : Pos} {k : Nat}
/-- one of two two-place rules, by the values -/
theorem op2_or {f : Value → Value → Sem Value} {ra rb r : D2} (h1 : OpR X f (l2 X.K CR ra)) (h2 : OpR X f (l2 X.K CR rb)) (h : ∀ a b M Q, r a b M Q → ra a b M Q ∨ rb a b M Q) : OpR X f (l2 X.K CR r) := (h1.or h2).imp fun x y H Q hh => by
  obtain ⟨P, a, b, M, Qd, r1, r2, g, q, k⟩ := hh
  rcases h a b M Qd q with q | q
  · exact .inl ⟨P, a, b, M, Qd, r1, r2, g, q, k⟩
  · exact .inr ⟨P, a, b, M, Qd, r1, r2, g, q, k⟩
def rRepD : D2 := fun a b M Q => ∃ xs n, a = .lst xs ∧ b = .int n ∧ -(2 ^ 63) ≤ n ∧ n < 2 ^ 63 ∧ xs.length * n.toNat ≤ sizeLine ∧ Q (.lst (List.replicate n.toNat xs).flatten) M
theorem o_repD : OpR X (binaryOp .Mult) (l2 X.K CR rRepD) := op_rep.imp fun x y H Q hh => by
  obtain ⟨P, a, b, M, Qd, ra, rb, gd, ⟨xs, n, rfl, rfl, h1, h2, h3, q⟩, k⟩ := hh
  obtain ⟨l, vs, rfl, f, rs⟩ := ra
  rw [show y = .int n from rb]
  exact ⟨l, n, vs, rfl, rfl, f.2, h1, h2, by rw [← rs.length]; exact h3, fun p hp => k _ _ (newL gd hp (reps_rep rs _) q)⟩
variable (T : RatT X.prog X.w X.K X.mg X.base CR) (hr : Room k X.A)
include T hr
theorem RatT.o_add (hk : 38 ≤ k := by decide) : OpR X (binaryOp .Add) (l2 X.K CR rAdd) := op2_or (o_bin T.add rfl (hr.mono hk) T.first) o_addP fun a b M Q h => by
  unfold rAdd at h; split at h
  · exact .inl ⟨_, _, rfl, rfl, _, _, rfl, h⟩
  · exact .inr h
theorem RatT.o_sub (hk : 38 ≤ k := by decide) : OpR X (binaryOp .Sub) (l2 X.K CR rSub) := op2_or (o_bin T.sub rfl (hr.mono hk) T.first) o_subI fun a b M Q h => by
  unfold rSub at h; split at h
  · exact .inl ⟨_, _, rfl, rfl, _, _, rfl, h⟩
  · exact .inr h
theorem RatT.o_mul (hk : 38 ≤ k := by decide) : OpR X (binaryOp .Mult) (l2 X.K CR rMul) := op2_or (op2_or (r := fun a b M Q => r2 sp_mul a b M Q ∨ rRepD a b M Q) (o_bin T.mul rfl (hr.mono hk) T.first) o_repD fun _ _ _ _ h => h) o_mulI fun a b M Q h => by
  unfold rMul at h; split at h
  · exact .inl (.inl ⟨_, _, rfl, rfl, _, _, rfl, h⟩)
  · exact .inl (.inr ⟨_, _, rfl, rfl, h⟩)
  · exact .inr h
theorem RatT.o_lt (hk : 38 ≤ k := by decide) : OpR X (compareOp .Lt) (l2 X.K CR rLtA) := op2_or (show OpR X (compareOp .Lt) _ from o_cmpR (op := .Lt) T.lt rfl (hr.mono hk)) _root_.DL.o_lt fun a b M Q h => by
  unfold rLtA at h; split at h
  · exact .inl ⟨_, _, rfl, rfl, _, _, rfl, h⟩
  · exact .inr h
theorem RatT.o_le (hk : 38 ≤ k := by decide) : OpR X (compareOp .LtE) (l2 X.K CR rLeA) := op2_or (show OpR X (compareOp .LtE) _ from o_cmpR (op := .LtE) T.le rfl (hr.mono hk)) _root_.DL.o_le fun a b M Q h => by
  unfold rLeA at h; split at h
  · exact .inl ⟨_, _, rfl, rfl, _, _, rfl, h⟩
  · exact .inr h
theorem RatT.o_gt (hk : 38 ≤ k := by decide) : OpR X (compareOp .Gt) (l2 X.K CR rGtA) := op2_or (show OpR X (compareOp .Gt) _ from o_cmpR (op := .Gt) T.gt rfl (hr.mono hk)) _root_.DL.o_gt fun a b M Q h => by
  unfold rGtA at h; split at h
  · exact .inl ⟨_, _, rfl, rfl, _, _, rfl, h⟩
  · exact .inr h
theorem RatT.o_ge (hk : 38 ≤ k := by decide) : OpR X (compareOp .GtE) (l2 X.K CR rGeA) := op2_or (show OpR X (compareOp .GtE) _ from o_cmpR (op := .GtE) T.ge rfl (hr.mono hk)) _root_.DL.o_ge fun a b M Q h => by
  unfold rGeA at h; split at h
  · exact .inl ⟨_, _, rfl, rfl, _, _, rfl, h⟩
  · exact .inr h
theorem RatT.o_neg (hk : 38 ≤ k := by decide) : UnR X (unaryOp .USub) (l1 X.K CR rNegA) := fun pins s σ H x v Q I rx hh => by
  obtain ⟨P, a, M, Qd, r1, g, q, k⟩ := hh
  unfold rNegA at q
  split at q
  · exact o_negR T.neg (hr.mono hk) pins s σ H x v Q I rx ⟨P, _, M, Qd, r1, g, ⟨_, rfl, _, rfl, q⟩, k⟩
  · exact o_negI pins s σ H x v Q I rx ⟨P, _, M, Qd, r1, g, q, k⟩
end
/-! ### isinstance(x, Ratio) -/
def IsRD : D → Mem → DK → Prop := fun d M Q => match d with
  | .rat _ => Q (.bl true) M
  | d => ∃ n, tyD d M = some n ∧ n ∈ tyNs ∧ Q (.bl false) M
theorem IsRD.cases {d : D} {M : Mem} {Q : DK} (h : IsRD d M Q) : (∃ q, d = .rat q ∧ Q (.bl true) M) ∨ ∃ n, tyD d M = some n ∧ n ∈ tyNs ∧ Q (.bl false) M := by
  unfold IsRD at h
  split at h
  · exact .inl ⟨_, rfl, h⟩
  · exact .inr h
def dIsR (w : DE) : DE := fun δ M Q => w δ M fun d M1 => IsRD d M1 Q
section
variable {X : Cx} {CR : Addr} {E : DXS} {W : WX} {pos p p2 : Pos}
theorem RatT0.d_isR {e : Expr} {w : DE} (T : RatT0 X.prog X.w X.K X.mg X.base CR) (hm : X.mg "isinstance" = none) (he : PD X (bs X CR E W) e w) (hg : Gl X "isinstance" := by rfl) (hg2 : Gl X "Ratio" := by rfl)
    (hs : starEach [e, .Name "Ratio" p2] X.env = (false, eval e X.env) :: starEach [.Name "Ratio" p2] X.env := by rfl) (hpl : (backTo pos (starEach [.Name "Ratio" p2] X.env)).any (·.1) = false := by rfl) :
    PD X (bs X CR E W) (.Call (.Name "isinstance" p) [e, .Name "Ratio" p2] [] pos) (dIsR w) := by
  refine (pe_callB call_isi hg hm (by decide +kernel) (pa_cons he (pa_cons (pe_glob (v := .ref CR) hg2 T.g rfl) pa_nil) hs) (he := hs) (hpl := hpl)).imp fun σ H Q h => ?_
  obtain ⟨P, δ, M, Qd, hS, g, x, w, k⟩ := h
  refine ⟨P, δ, M, _, hS, g, x, w, fun v H1 ⟨d, M1, z1, g1, r1, q⟩ => ?_⟩
  rcases q.cases with ⟨q0, rfl, q⟩ | ⟨n, hn, hm, q⟩
  · obtain ⟨a, dx, rfl, _, ea⟩ := r1
    exact ⟨.ref a, .ref CR, .ref CR, .ref CR, true, rfl, .own CR, .base (.ins ea T.cls T.isf.cc T.isf.cg T.isf.ct T.isf.cm), by simp [PySem.W.kitOne], k _ _ ⟨.bl true, M1, z1, g1, rfl, q⟩⟩
  · exact ⟨v, .ref CR, .type n, .ref CR, false, rfl, .own CR, tyD_ok g1 r1 hn, T.isf.no n hm, k _ _ ⟨.bl false, M1, z1, g1, rfl, q⟩⟩
/-! ### gcd -/
def rGcdD : DC := fun ds M Q => ∃ a b : Int, ds = [.int a, .int b] ∧ Q (.int ((Nat.gcd a.natAbs b.natAbs : Nat) : Int)) M
theorem d_gcd {x : Str} {e : Expr} {es : List Expr} {t : DA} (hm : X.mg x = some (.builtin "math.gcd")) (ha : PDA X (bs X CR E W) (e :: es) t) (hg : Gl X x := by rfl) (hdb : (x == ("__debug__" : Str)) = false := by decide)
    (he : starEach (e :: es) X.env = (false, eval e X.env) :: starEach es X.env := by rfl) (hpl : (backTo pos (starEach es X.env)).any (·.1) = false := by rfl) : PD X (bs X CR E W) (.Call (.Name x p) (e :: es) [] pos) (dCB rGcdD t) := by
  refine (pe_callBfun cr_gcd hg hm ha hdb he hpl).imp fun σ H Q h => ?_
  obtain ⟨P, δ, M, Qd, hS, g, x, w, k⟩ := h
  refine ⟨P, δ, M, _, hS, g, x, w, fun vs H1 ds M1 z1 g1 rs q => ?_⟩
  obtain ⟨a, b, rfl, q⟩ := q
  obtain ⟨v1, r1, rfl, h1, v2, r2, rfl, h2, h3⟩ := rs
  rw [show r2 = [] from h3, show v1 = .int _ from h1, show v2 = .int _ from h2]
  exact ⟨a, b, rfl, k _ _ ⟨.int _, M1, z1, g1, rfl, q⟩⟩
end
/-! ### sizes of products -/
theorem mulS {a b : Int} {n m : Nat} (ha : a.natAbs ≤ 2 ^ n) (hb : b.natAbs ≤ 2 ^ m) (hn : n < 60000000 := by decide) (hm : m < 60000000 := by decide) : IntMulOk a b := by
  have k : ∀ (x : Int) (i : Nat), x.natAbs ≤ 2 ^ i → i < 60000000 → Builtin.Int.intBits x ≤ 60000000 := fun x i hx hi => by
    refine Nat.le_trans (intBits_le_iff (m := i + 1).mpr (Nat.lt_of_le_of_lt hx (Nat.pow_lt_pow_right (by decide) (Nat.lt_succ_self i)))) ?_
    omega
  exact .of_le (k a n ha hn) (k b m hb hm) (by decide)
/-! ### facts of the head with a check of one's own -/
def obsC (ck : PySem.W.Frag → Bool) (fa : List He.Fa) (fn : List He.DefD) (K : PySem.W.Frag) : He.AlD := (ck K && (He.obsD fa fn K).1, (He.obsD fa fn K).2)
def obsCG (n : Nat) (ck : PySem.W.Frag → Bool) (fa : List He.Fa) (fn : List He.DefD) (g : Addr → Option Obj) : He.AlD := obsC ck fa fn (He.frG g (He.asD g n ++ [cStatics, sysModules]))
theorem obsC_ok {ck : PySem.W.Frag → Bool} {fa : List He.Fa} {fn : List He.DefD} {K : PySem.W.Frag} (e : obsC ck fa fn K = He.valD fn) : ck K = true ∧ He.SaysD fa fn K := by
  have e1 : (ck K && (He.obsD fa fn K).1) = true := congrArg (fun z : He.AlD => z.1) e
  have e2 : (obsC ck fa fn K).2 = (He.valD fn).2 := by rw [e]
  obtain ⟨a, b⟩ := He.ba e1
  exact ⟨a, Prod.ext b e2⟩
def hookC (n : Nat) (ck : PySem.W.Frag → Bool) (fa : List He.Fa) (fn : List He.DefD) : PySem.W.Hook where
  α := He.AlD
  obs s := obsCG n ck fa fn s.heap.get?
  val _ := He.valD fn
  says _ h := ∃ K : PySem.W.Frag, K.In h ∧ ck K = true ∧ He.SaysD fa fn K
  of _ _ e := ⟨_, He.frG_in, obsC_ok e⟩
  keeps _ _ _ := fun ⟨K, hK, c⟩ k => ⟨K, PySem.W.Frag.In.keeps hK k, c⟩
theorem obsCG_eq {n : Nat} {ck : PySem.W.Frag → Bool} {fa : List He.Fa} {fn : List He.DefD} {g : Addr → Option Obj} {s : Shared} (h : ∀ a, g a = s.heap.get? a) : obsCG n ck fa fn g = (hookC n ck fa fn).obs s := by
  have : g = s.heap.get? := funext h
  subst this; rfl
/-! ### x != y by the own == -/
section
open PySem.W
variable {prog : Program} {w : World} {A : Around} {E : Value → Shared → Prop} {s : Shared} {K : Frag} {x C L f : Addr} {h0 : Heap} {m : Str → Option Value} {ox : Obj} {od : Option Obj} {b tb : Value}
theorem ne_special (X : K.In s.heap) (I : InstAt s.heap x ox C od) (hn : findIn K (.ref C) "__ne__" = some (some (.builtin "object.__ne__"))) (hm : mroIn K C (.type "object") = some true) (hu : A.in1.units < cLine) {Q : Option Value → Shared → Prop}
    (h : wpAny (model prog w) A.in1 (callSpecialIfBound? (.ref x) "__eq__" [b]) (fun r s' => ∃ k, r = some (.bool k) ∧ Q (some (.bool (!k))) s') E s) : wpAny (model prog w) A (callSpecialIfBound? (.ref x) "__ne__" [b]) Q E s := by
  have S := PySem.F.slot_object_ne
  have inst : Looks (model prog w) s.heap (isInstance (.ref x) (.type "object")) true := I.type.andThen (looks_mroIn X hm)
  have call : wpAny (model prog w) A (call (.builtin "object.__ne__") [.ref x, b]) (fun v => Q (some v)) E s := by
    refine wpAny_call (codeAny_call_builtin S.plain PySem.F.cmpEntry_ne (check_slot PySem.F.cmpKind_ne PySem.F.cmpSplit_ne inst (PySem.F.cmpArgs_ne _ _) ?_))
    unfold Builtin.«object.__ne__»
    repeat (first | with_reducible refine wpAny_cRoomFor hu ?_ | with_reducible refine wpAny_mono h (fun r s' q => ?_) (fun _ _ z => z) | wp_step)
    obtain ⟨k, rfl, q⟩ := q
    repeat (first | with_reducible refine wpAny_truthy_bool ?_ | wp_step)
    exact q
  simp only [callSpecialIfBound?, bindSpecialIfBound?]
  refine wpAny_holding (wpAny_bind (wpAny_bind (wpAny_bind (I.type.here ((looks_findIn X hn).here ?_)))))
  refine wpAny_bind (wpAny_askSetting (wpAny_ite ?_))
  have fin : wpAny (model prog w) A (PySem.call (.builtin "object.__ne__") ([.ref x] ++ [b]) >>= fun v => pure (some v)) Q E s := wpAny_bind (wpAny_mono call (fun v s' h' => wpAny_pure h') fun _ _ h' => h')
  split
  · refine wpAny_bind ?_
    rw [S.bind]
    exact wpAny_pure (wpAny_pure (by exact fin))
  · refine wpAny_tryCatch (wpAny_bind ?_)
    rw [S.bind]
    exact wpAny_pure (wpAny_pure (by exact fin))
end
section
variable {X : Cx} {CR : Addr} {k : Nat}
def rNeA : D2 := fun a b M Q => match a with
  | .rat p => ∃ r, eqB p b = some r ∧ Q (.bl (!r)) M
  | a => rNeP a b M Q
theorem RatT.o_ne (T : RatT X.prog X.w X.K X.mg X.base CR) (hr : Room k X.A) (hk : 39 ≤ k := by decide) : OpR X (compareOp .NotEq) (l2 X.K CR rNeA) := by
  intro pins s σ H x y v u Q I rx ry ⟨P, a, b, M, Qd, ra, rb, g, h, kk⟩
  cases a with
  | rat p =>
    obtain ⟨r, hq, h⟩ := h
    obtain ⟨f, fd, F, hb, hs, hf⟩ := T.eq.ex
    have rs : Reps ⟨X.K, CR, P⟩ H M [.rat p, b] [x, y] := ⟨_, _, rfl, ra, _, _, rfl, rb, rfl⟩
    obtain ⟨tb, lb, nf⟩ := eqB_look T.isf I ry rb hq
    obtain ⟨a, dx, rfl, _, ha⟩ := ra
    obtain rfl : v = Value.ref a := rx
    obtain ⟨mA, J, _⟩ := ins_get I.hok ha
    obtain ⟨od, J, _⟩ := J.look
    obtain ⟨m, hF⟩ := I.fr
    have KX := I.kIn
    have hr3 : Room 38 X.A.in1 := (hr.mono hk).in1
    have e0 : Env0 X.prog X.w X.K X.mg X.base X.A.in1 X.stack s H := I.env0.in1
    have hsp : lSp X.K CR sp_eq [.ref a, y] H (fun v H' => v = .bl r ∧ Q (.bl (!r)) H') E0 := by
      refine lSp_of (Qd := fun d M' => d = .bl r ∧ Qd (.bl (!r)) M') g rs ⟨p, b, r, rfl, hq, rfl, h⟩ fun v H' ⟨d, M', z, g', r, e, q'⟩ => ?_
      subst e
      exact ⟨r, kk _ _ ⟨.bl _, M', z, g', rfl, q'⟩⟩
    have eqc : wpAny (model X.prog X.w) X.A.in1 (callSpecialIfBound? (.ref a) "__eq__" [u]) (fun r s' => ∃ k, r = some (.bool k) ∧ EP X pins σ Q (.bool (!k)) s') X.xe s := by
      refine PySem.W.ifBound_K KX J hs hf ?_
      refine wpAny_call (codeAny_mono (F.run X.A.in1 X.stack s H ⟨[.ref a, u], []⟩ [.ref a, u] [.ref a, y] _ E0 hr3 e0 (by simpa using hb s [.ref a, u] KX rfl) (.cons rfl (.cons ry .nil)) hsp) fun r s' hq => ?_)
      cases r with
      | error e => exact passL pins σ H s e s' I hq
      | ok fl =>
        cases fl with
        | ret w =>
          obtain ⟨z, H', I', rz, ez, q'⟩ := I.after hq
          subst ez
          obtain rfl : w = Value.bool _ := rz
          exact ⟨_, rfl, .bl _, H', I', rfl, q'⟩
        | next => exact False.elim hq
        | brk => exact False.elim hq
        | cont => exact False.elim hq
    show wpAny (model X.prog X.w) X.A (richCompare .NotEq (.ref a) u) (EP X pins σ Q) X.xe s
    have one : wpAny (model X.prog X.w) X.A (tryCompare (.ref a) "__ne__" u) (fun r s' => ∃ v, r = some v ∧ EP X pins σ Q v s') X.xe s := by
      unfold tryCompare
      refine wpAny_bind (ne_special KX J T.isf.ne T.isf.cm (hr.mono (show 1 ≤ k by omega)).in1.units0 (wpAny_mono eqc (fun r s' q => ?_) fun _ _ z => z))
      obtain ⟨j, rfl, q⟩ := q
      exact ⟨j, rfl, wpAny_pure ⟨_, rfl, q⟩⟩
    unfold richCompare
    simp only [oneThing_ref]
    refine wpAny_holding (wpAny_bind (wpAny_cRoomFor hr.units0 ?_))
    refine wpAny_bind (J.type.here (wpAny_bind (lb.here ?_)))
    split
    · rename_i q
      have e : PySem.W.subIn X.K tb (.ref CR) = some false := by
        rcases Bool.or_eq_true_iff.mp nf with e | e
        · rw [beq_iff_eq.mp e] at q; simp at q
        · exact beq_iff_eq.mp e
      refine wpAny_bind ((PySem.W.looks_subIn KX e).here ?_)
      simp only [Bool.false_eq_true, if_false]
      refine wpAny_bind (wpAny_mono one (fun r s' z => ?_) fun _ _ z => z)
      obtain ⟨v, rfl, hq⟩ := z
      exact wpAny_pure hq
    · refine wpAny_bind (wpAny_pure ?_)
      simp only [Bool.false_eq_true, if_false]
      refine wpAny_bind (wpAny_mono one (fun r s' z => ?_) fun _ _ z => z)
      obtain ⟨v, rfl, hq⟩ := z
      exact wpAny_pure hq
  | _ => exact o_neP hr.units pins s σ H x y v u Q I rx ry ⟨P, _, _, M, Qd, ra, rb, g, h, kk⟩
end
/-! ### the class from the head's facts -/
def inCls (st : Stmt) (j : Nat) : Stmt := match st with
  | .ClassDef (body := b) .. => b.getD j (.Pass ⟨0, 0, 0, 0⟩)
  | s => s
/-- nobody watches: a division may go by pylong -/
def seerCk (K : PySem.W.Frag) : Bool :=
  PySem.W.nsOkIn K cStatics && (He.eqO (PySem.W.nsIn K cStatics "sys.audit-hooks") (some none) && (He.eqO (PySem.W.nsIn K cStatics "sys.dict") (some none) && (PySem.W.nsOkIn K sysModules && (He.eqO (PySem.W.nsIn K sysModules "_pylong") (some none) &&
  (match PySem.W.nsIn K mainGlobals "__builtins__" with
  | some (some (.ref bm)) => (match K.lookup bm with
    | some ⟨.type c, some d, _, _⟩ => decide (c = "module") && decide (d = builtinsNs)
    | _ => false)
  | _ => false)))))
theorem seer_of {K : PySem.W.Frag} {mg : Str → Option Value} {base : Heap} (m : Mod K mg base) (c : seerCk K = true) : base.NoSeer := by
  obtain ⟨c1, c⟩ := He.ba c
  obtain ⟨c2, c⟩ := He.ba c
  obtain ⟨c3, c⟩ := He.ba c
  obtain ⟨c4, c⟩ := He.ba c
  obtain ⟨c5, c⟩ := He.ba c
  refine ⟨⟨_, .of_isNs (PySem.W.isNs_of_in m.kin c1), PySem.W.nsMap_none_of_in m.kin c1 (He.eqO_ok c2), PySem.W.nsMap_none_of_in m.kin c1 (He.eqO_ok c3)⟩, ⟨_, .of_isNs (PySem.W.isNs_of_in m.kin c4), PySem.W.nsMap_none_of_in m.kin c4 (He.eqO_ok c5)⟩, m.blt, ?_⟩
  split at c
  · rename_i bm e
    split at c
    · rename_i n d q z lk
      obtain ⟨d1, d2⟩ := He.ba c
      exact ⟨mg, bm, _, m.glob, PySem.W.mg_of m.kin m.glob e, m.kin _ _ lk, by rw [of_decide_eq_true d1], by rw [of_decide_eq_true d2]⟩
    · cases c
  · cases c
theorem pyR_of {X : Cx} (c : seerCk X.K = true) (pt : X.prog.given.tree = none) {k : Nat} (hr : Room k X.A) (hst : X.stack = X.env :: X.outer) (hg : X.env.scope.isGenerator = false) (hc : X.env.scope.isCoroutine = false) (hk : 35 ≤ k := by decide) : PyR X := fun pins σ H s I =>
  PylongRoom.of I.nolimit (by have := hr.dp; show X.A.depth + 100 < recursionLimit; omega) (SeerAt.of ((seer_of I.ok.mod c).keeps I.bk) pt (I.ok.frames.trans (congrArg some hst)) hg hc I.ok.blt I.ok.glob)
def ratCk0 (K : PySem.W.Frag) : Bool :=
  PySem.W.selfFirst K (He.ga K "Ratio") && (He.eqO (PySem.W.findIn K (.ref (He.ga K "Ratio")) "__class__") (some (some (.builtin "object.__class__"))) &&
  (He.eqO (PySem.W.specialIn K (.builtin "object.__class__") "__get__") (some (some (.builtin "getset_descriptor.__get__"))) && (decide (PySem.W.takesIn K (.builtin "object.__class__") = some true) &&
  (decide (PySem.W.mroIn K (He.ga K "Ratio") (.type "object") = some true) && (He.eqO (PySem.W.findIn K (.ref (He.ga K "Ratio")) "__ne__") (some (some (.builtin "object.__ne__"))) &&
  (tyNs.all (fun n => decide (PySem.W.kitOne K (.type n) (.ref (He.ga K "Ratio")) = some false) && decide (PySem.W.kitOne K (.ref (He.ga K "Ratio")) (.type n) = some false)) &&
  He.eqO (PySem.W.nsIn K mainGlobals "gcd") (some (some (.builtin "math.gcd")))))))))
def ratCk (K : PySem.W.Frag) : Bool := ratCk0 K && seerCk K
section
variable {P : Program} {w : World} {K : PySem.W.Frag} {mg : Str → Option Value} {base : Heap} {CR f : Addr} {fd : FuncData} {h : Heap}
theorem ratCk_seer (c : ratCk K = true) : seerCk K = true := (He.ba c).2
theorem ratCk_first (c : ratCk K = true) : PySem.W.selfFirst K (He.ga K "Ratio") = true := (He.ba (He.ba c).1).1
theorem ratCk_isf (c : ratCk K = true) : IsF K (He.ga K "Ratio") := by
  replace c := (He.ba c).1
  obtain ⟨_, c⟩ := He.ba c
  obtain ⟨c1, c⟩ := He.ba c
  obtain ⟨c2, c⟩ := He.ba c
  obtain ⟨c3, c⟩ := He.ba c
  obtain ⟨c4, c⟩ := He.ba c
  obtain ⟨c5, c⟩ := He.ba c
  obtain ⟨c6, c⟩ := He.ba c
  have c7 := List.all_eq_true.mp c6
  exact ⟨He.eqO_ok c1, He.eqO_ok c2, of_decide_eq_true c3, of_decide_eq_true c4, He.eqO_ok c5, fun n hn => of_decide_eq_true (He.ba (c7 n hn)).1, fun n hn => of_decide_eq_true (He.ba (c7 n hn)).2⟩
theorem ratCk_gcd (X : K.In h) (G : h.Ns mainGlobals mg) (c : ratCk K = true) : mg "gcd" = some (.builtin "math.gcd") := by
  replace c := (He.ba c).1
  obtain ⟨_, c⟩ := He.ba c
  obtain ⟨c1, c⟩ := He.ba c
  obtain ⟨c2, c⟩ := He.ba c
  obtain ⟨c3, c⟩ := He.ba c
  obtain ⟨c4, c⟩ := He.ba c
  obtain ⟨c5, c⟩ := He.ba c
  obtain ⟨c6, c⟩ := He.ba c
  exact PySem.W.mg_of X G (He.eqO_ok c)
theorem mkOk_of {x qual : Str} {st : Stmt} (F : FunD K x qual (defArgs st) (defBody st) (defScope st) [V.int 1] [] f fd) (mk : Mk K CR f) (ok : FnOk P w K mg base (L2.CX P w) 36 f fd ["self", "top", "bottom"] (lSp K CR (sp_init CR)))
    (h : ∀ (T : Addr) (kV doc pm : Value) (an : Option Addr) (cdv ct a b c d : Value), (∃ k, bindArgs (PySem.W.fnOf x qual (defArgs st) (defBody st) (defScope st) (.ref T) kV doc pm an cdv ct) ⟨[a, b, c], []⟩ = seqItems? (.ref T) >>= k ∧ k (some #[d]) = pure ((["self", "top", "bottom"] : List Str).zip [a, b, c])) ∧
      ∃ k, bindArgs (PySem.W.fnOf x qual (defArgs st) (defBody st) (defScope st) (.ref T) kV doc pm an cdv ct) ⟨[a, b], []⟩ = seqItems? (.ref T) >>= k ∧ k (some #[d]) = pure ((["self", "top", "bottom"] : List Str).zip [a, b, d])) : MkOk P w K mg base CR := by
  obtain ⟨ds, v0, b0⟩ := F.binds1 (ps := ["self", "top", "bottom"]) 3 1 (by simp) rfl (fun T kV doc pm an cdv ct us its h1 h2 => match us, its, h1, h2 with
    | [a, b, c], [d], _, _ => (h T kV doc pm an cdv ct a b c d).1)
  obtain ⟨es, v1, b1⟩ := F.binds1 (ps := ["self", "top", "bottom"]) 2 0 (by simp) rfl (fun T kV doc pm an cdv ct us its h1 h2 => match us, its, h1, h2 with
    | [a, b], [d], _, _ => (h T kV doc pm an cdv ct a b d d).2)
  cases v0
  match es, v1 with
  | [d1], v1 => exact ⟨f, fd, d1, mk, ok, b0, b1, v1⟩
theorem op2_of {x qual name : Str} {st : Stmt} {sp : DSp} (F : FunD K x qual (defArgs st) (defBody st) (defScope st) [] [] f fd) (m : Meth K CR name f) (ok : FnOk P w K mg base (L2.CX P w) 38 f fd ["self", "other"] (lSp K CR sp))
    (h : ∀ (kV doc pm : Value) (an : Option Addr) (cdv ct a b : Value), bindArgs (PySem.W.fnOf x qual (defArgs st) (defBody st) (defScope st) .none kV doc pm an cdv ct) ⟨[a, b], []⟩ = pure ((["self", "other"] : List Str).zip [a, b])) : Op2 P w K mg base CR name sp :=
  ⟨f, fd, ok, F.bindsN fun kV doc pm an cdv ct us hl => match us, hl with | [a, b], _ => h kV doc pm an cdv ct a b, m.at_, m.fn⟩
theorem op1_of {x qual name : Str} {st : Stmt} {sp : DSp} (F : FunD K x qual (defArgs st) (defBody st) (defScope st) [] [] f fd) (m : Meth K CR name f) (ok : FnOk P w K mg base (L2.CX P w) 38 f fd ["self"] (lSp K CR sp))
    (h : ∀ (kV doc pm : Value) (an : Option Addr) (cdv ct a : Value), bindArgs (PySem.W.fnOf x qual (defArgs st) (defBody st) (defScope st) .none kV doc pm an cdv ct) ⟨[a], []⟩ = pure ((["self"] : List Str).zip [a])) : Op1 P w K mg base CR name sp :=
  ⟨f, fd, ok, F.bindsN fun kV doc pm an cdv ct us hl => match us, hl with | [a], _ => h kV doc pm an cdv ct a, m.at_, m.fn⟩
end
section
variable {X : Cx} {CR : Addr} {E : DXS} {W : WX} {pos apos : Pos}
/-- x.bit_length() -/
def dBits (w : DE) : DE := fun δ M Q => w δ M fun d M1 => ∃ i : Int, d = .int i ∧ Q (.int (Builtin.Int.intBits i : Nat)) M1
theorem d_bits {o : Expr} {w : DE} (ho : PD X (bs X CR E W) o w) (hbase : attributeBase o "bit_length" X.env (eval o X.env) = eval o X.env := by rfl) (hline : (apos.endLine == pos.line) = true := by rfl) : PD X (bs X CR E W) (.Call (.Attribute o "bit_length" apos) [] [] pos) (dBits w) := by
  refine (pe_bits ho hbase hline).imp fun σ H Q h => ?_
  obtain ⟨P, δ, M, Qd, hS, g, x, w, k⟩ := h
  refine ⟨P, δ, M, _, hS, g, x, w, fun v H1 ⟨d, M1, z1, g1, r1, i, e, q⟩ => ?_⟩
  subst e
  rw [show v = .int i from r1]
  exact ⟨i, rfl, k _ _ ⟨.int _, M1, z1, g1, rfl, q⟩⟩
end
/-! ### abs(x) of an own instance -/
section
open PySem.W
variable {prog : Program} {w : World} {A : Around} {E : Value → Shared → Prop} {s : Shared} {K : Frag} {x C f : Addr} {ox : Obj} {od : Option Obj}
theorem abs_own {Q : Value → Shared → Prop} (X : K.In s.heap) (I : InstAt s.heap x ox C od) (hs : findIn K (.ref C) "__abs__" = some (some (.ref f))) (hf : isFn K (.ref f) = true)
    (h : wpAny (model prog w) A.in1 (PySem.call (.ref f) [.ref x]) Q E s) : wpAny (model prog w) A (PySem.call (.builtin "abs") [.ref x]) Q E s := by
  refine Calls.call_function_entry kind_abs plain_abs entry_abs (args_abs _) ?_
  unfold Builtin.«abs»
  refine wpAny_bind (m := oneArg "abs" _) (wpAny_pure ?_)
  refine wpAny_bind (m := callSpecial? (.ref x) (Str.ofString "__abs__")) (special_fn X I hs (beq_iff_eq.mp hf) (wpAny_mono h (fun r s' hr => ?_) fun _ _ y => y))
  exact wpAny_pure ⟨_, rfl, hr⟩
end
section
variable {X : Cx} {CR : Addr} {E : DXS} {W : WX} {pos p apos : Pos} {k : Nat}
def rAbsA : DC := fun ds M Q => match ds with
  | [.rat p] => Sm p ∧ Q (.rat p.abs) M
  | ds => rAbsI ds M Q
theorem RatT.c_abs (T : RatT X.prog X.w X.K X.mg X.base CR) (hr : Room k X.A) (hk : 39 ≤ k := by decide) : CallR X (.builtin "abs") (lC X.K CR rAbsA) := by
  intro pins s σ H xs us Q I rx ⟨P, ds, M, Qd, rs, g, h, kk⟩
  unfold rAbsA at h
  split at h
  · rename_i q
    obtain ⟨hs1, h⟩ := h
    obtain ⟨f, fd, F, hb, hs, hf⟩ := T.abs.ex
    have rs2 := rs
    obtain ⟨x, r0, rfl, ra, r1⟩ := rs
    obtain rfl : r0 = [] := r1
    obtain ⟨a, dx, rfl, _, ha⟩ := ra
    cases rx with
    | cons ru rn =>
      cases rn
      rename_i u
      obtain rfl : u = Value.ref a := ru
      obtain ⟨mA, J, _⟩ := ins_get I.hok ha
      obtain ⟨od, J, _⟩ := J.look
      refine abs_own I.kIn J hs hf ?_
      refine wpAny_call (codeAny_mono (F.run X.A.in1 X.stack s H ⟨[.ref a], []⟩ [.ref a] [.ref a] _ E0 (hr.mono hk).in1 I.env0.in1 (by simpa using hb s [.ref a] I.kIn rfl) (.cons rfl .nil) (lSp_of g rs2 ⟨q, rfl, hs1, h⟩ kk)) fun r s' hq => ?_)
      cases r with
      | error e => exact passL pins σ H s e s' I hq
      | ok fl =>
        cases fl with
        | ret w => exact I.after hq
        | next => exact False.elim hq
        | brk => exact False.elim hq
        | cont => exact False.elim hq
  · exact c_absI pins s σ H xs us Q I rx ⟨P, _, M, Qd, rs, g, h, kk⟩
/-! ### a method of a fraction -/
structure MethOk (P : Program) (w : World) (K : PySem.W.Frag) (mg : Str → Option Value) (base : Heap) (CR : Addr) (name : Str) (ps : List Str) (sp : DSp) : Prop where
  ex : ∃ f fd, FnOk P w K mg base (L2.CX P w) 38 f fd ps (lSp K CR sp) ∧ Binds K fd ps [] ∧ Meth K CR name f
def dMeth (sp : DSp) (wo : DE) (t : DA) : DE := fun δ M Q => wo δ M fun o M1 => ∃ q, o = .rat q ∧ t δ M1 fun ds M2 => sp (o :: ds) M2 Q noX
theorem d_meth {name : Str} {ps : List Str} {sp : DSp} {pl : Sem Bool} {o e : Expr} {es : List Expr} {wo : DE} {t : DA} (O : MethOk X.prog X.w X.K X.mg X.base CR name ps sp) (T : RatT X.prog X.w X.K X.mg X.base CR) (hr : Room k X.A) (ho : PD X (bs X CR E W) o wo) (ha : PDA X (bs X CR E W) (e :: es) t)
    (hn : ∀ q, (ratF q).lookup name = none := by intro _; rfl) (hk : 38 ≤ k := by decide)
    (hst : starEach (e :: es) X.env = (false, eval e X.env) :: starEach es X.env := by rfl) (hpl : (backTo pos (starEach es X.env)).any (·.1) = false := by rfl)
    (ht : eval (.Call (.Attribute o name apos) (e :: es) [] pos) X.env = (do
      let ov ← eval o X.env
      standAt apos.atName
      let (f, first) ← holding [ov] (getMethod ov name pl)
      callWith pos f first (backTo pos (starEach (e :: es) X.env)) (backToKw pos (keywordEach [] X.env))) := by rfl) : PD X (bs X CR E W) (.Call (.Attribute o name apos) (e :: es) [] pos) (dMeth sp wo t) := by
  obtain ⟨f, fd, F, hb, hm⟩ := O.ex
  refine (pe_meth ho T.cls hm F (hr.mono hk) hb .nil passL ha hst hpl ht).imp fun σ H Q h => ?_
  obtain ⟨P, δ, M, Qd, hS, g, x, w, kk⟩ := h
  refine ⟨P, δ, M, _, hS, g, x, w, fun v H1 ⟨d, M1, z1, g1, r1, q, ed, q1⟩ => ?_⟩
  subst ed
  have r1' := r1
  obtain ⟨a, dx, rfl, _, ea⟩ := r1
  refine ⟨a, dx, _, rfl, ea, hn q, P, δ, M1, _, hS.mono z1, g1, x.trans z1, q1, fun vs H2 ds M2 z2 g2 rs q2 => ?_⟩
  show lSp X.K CR sp (V.ref a :: (vs ++ [])) H2 Q E0
  rw [List.append_nil]
  exact lSp_of (ds := .rat q :: ds) g2 ⟨_, _, rfl, r1'.mono z2, rs⟩ q2 fun v H' l => kk v H' (l.trans (z1.trans z2))
def sp_over : DSp := fun ds M Q _ => ∃ p q, ds = [.rat p, .rat q] ∧ Sm p ∧ Sm q ∧ q ≠ 0 ∧ Q (.rat (p / q)) M
theorem meth_of {P : Program} {w : World} {K : PySem.W.Frag} {mg : Str → Option Value} {base : Heap} {CR f : Addr} {fd : FuncData} {x qual name : Str} {st : Stmt} {sp : DSp} {ps : List Str} (F : FunD K x qual (defArgs st) (defBody st) (defScope st) [] [] f fd) (m : Meth K CR name f) (ok : FnOk P w K mg base (L2.CX P w) 38 f fd ps (lSp K CR sp))
    (h : ∀ (kV doc pm : Value) (an : Option Addr) (cdv ct : Value) (us : List Value), us.length = ps.length → bindArgs (PySem.W.fnOf x qual (defArgs st) (defBody st) (defScope st) .none kV doc pm an cdv ct) ⟨us, []⟩ = pure (ps.zip us)) : MethOk P w K mg base CR name ps sp := ⟨f, fd, ok, F.bindsN h, m⟩
end
/-! ### errors that leave -/
theorem lfx_w {O : Own} {H M} {δ : DS0} {σ : L2.St} {E : DXS} {W : WX} (hS : RepS O H M δ σ) (x : XL O H M E W) : ∀ c d H', LfX O H M (fun C ns fs M' => E C ns fs δ M') c d H' → W c d σ H' := fun c d H' ⟨C, ns, fs, M', e, z, g, r, q⟩ => by
  exact x c d σ H' ⟨C, ns, fs, δ, M', e, z, g, hS.mono z, r, q⟩
theorem ErrD.mono {O : Own} {H M H' M'} {d : Option Addr} {ns : List Str} {fs : List D} (z : Fz O H M H' M') (h : ErrD O H M d ns fs) : ErrD O H' M' d ns fs := by
  rcases h with h | ⟨nn, dd, vs, e, f, eh, l, r⟩
  · exact .inl h
  · exact .inr ⟨nn, dd, vs, e, ⟨(z.st dd _ f eh).2, f.2⟩, (z.st dd _ f eh).1, l, r.mono z⟩
section
variable {X : Cx} {C : Addr} {bmB : List Value} {B newId initId : String}
/-- X(): an own error class without an __init__, called without arguments -/
theorem pmk_none {x : Str} {p pos : Pos} (F : ExcBaseFacts B newId initId bmB) (q : PySem.W.excIn X.K C bmB newId = true) (gC : X.mg x = some (.ref C)) (kC : PySem.W.keepIn X.K (.ref C) = true) (r : Raises X (.ref C)) (hg : Gl X x)
    (hdb : (x == ("__debug__" : Str)) = false := by decide) : PMk X (.Call (.Name x p) [] [] pos) (fun _ H Q => Q (.ref C) none H) := by
  intro pins s σ H Q I h
  refine wpAny_Call_Name_kw (ld_glob I hg gC ?_ hdb)
  refine PySem.W.callWith_K0 (first := []) I.kIn kC ?_
  obtain ⟨bm, N, nm, qn, bs, hdct, sn, sub, ab, col, dd, k0, k1, k2, k3, k5, mN, hC, hN, hni, T⟩ := exc_obj I.kIn q
  exact wpAny_call_exc_subT F T hC hN hni (fun h' e hm => mk_of I hm r h (I.hok.gone hm.new)) (Nat.zero_le _)
end
/-- what the text must hold of the error's class -/
structure ErrC (K : PySem.W.Frag) (mg : Str → Option Value) (x : Str) (Z : Addr) : Prop where
  q : PySem.W.excIn K Z He.veBase "ValueError.__new__" = true
  k : PySem.W.keepIn K (.ref Z) = true
  sub : PySem.W.subIn K (.ref Z) (.type "BaseException") = some true
  ty : PySem.W.typeIn K (.ref Z) = some (.type "type")
  g : mg x = some (.ref Z)
  self : PySem.W.exmOne K (.ref Z) (.ref Z) = some true
section
variable {X : Cx} {CR : Addr} {E : DXS} {W : WX} {pos p pos' : Pos}
def dRaise (Z : Addr) (E : DXS) : DSt := fun _ δ M => E Z [] [] δ M
theorem s_raise {x : Str} {Z : Addr} (c : ErrC X.K X.mg x Z) (tk : Takes X W) (hc : X.calm = true := by rfl) (hg : Gl X x := by rfl) (hdb : (x == ("__debug__" : Str)) = false := by decide) : PDS X (bs X CR E W) (.Raise (some (.Call (.Name x p) [] [] pos)) none pos') (dRaise Z E) := by
  refine (ps_raise hc tk (pmk_none PySem.F.excBase_ValueError c.q c.g c.k (raises_own c.sub c.ty) hg hdb)).imp fun Dn σ H h => ?_
  obtain ⟨P, δ, M, Dd, hS, g, x, w, k⟩ := h
  exact x (.ref Z) none σ H ⟨Z, [], [], δ, M, rfl, Fz.refl, g, hS, .inl ⟨rfl, rfl, rfl⟩, w⟩
/-- try: .. except Z: .. -/
def dTry (cat : Addr → Prop) (wb : DXS → DSt) (ws : DSt) : DSt := fun Dn δ M => wb (fun C ns fs δ' M' => cat C ∧ ws Dn δ' M') Dn δ M
theorem s_try {x : Str} {Z : Addr} {cat : Addr → Prop} {body suite : List Stmt} {b0 : Stmt} {np : Pos} {wb : DXS → DSt} {ws : DSt} (hcat : ∀ C, cat C → PySem.W.exmOne X.K (.ref C) (.ref Z) = some true) (hc : Names X x (.ref Z)) (tk : Takes X W)
    (hb : ∀ (E' : DXS) (W' : WX) (pn : List (Addr × Obj)) (xe : Value → Shared → Prop), Takes (X.tr pn xe) W' → PassesOwn (model X.prog X.w) X.A X.env xe → PDSs (X.tr pn xe) (bs X CR E' W') body (wb E'))
    (hsu : ∀ (a : Addr) (oe : Obj) (pn : List (Addr × Obj)), PDSs (X.suite a ((a, oe) :: pn)) (bs X CR noE noW) (b0 :: suite) ws)
    (hs : X.stack = X.env :: X.outer := by rfl) (hf : X.env.frame = some X.env.locals := by rfl) :
    PDS X (bs X CR E W) (.Try body [.ExceptHandler (some (.Name x np)) none (b0 :: suite) pos'] [] [] pos) (dTry cat wb ws) := by
  refine (ps_try_only (tb := fun W' Dn σ H => ∃ E', lS (bs X CR E' W') (wb E') Dn σ H) (ts := fun _ _ _ => lS (bs X CR noE noW) ws) (Wout := W) hs hf hc tk
    (fun W' pn xe tk' po => ⟨fun p s σ H Dn I ⟨E', q⟩ => (hb E' W' pn xe tk' po).run p s σ H Dn I q⟩) (fun a oe cls d pn _ _ => hsu a oe pn)).imp fun Dn σ H h => ?_
  obtain ⟨P, δ, M, Dd, hS, g, x, w, k⟩ := h
  refine ⟨fun C ns fs δ' M' => cat C ∧ ws Dd δ' M', P, δ, M, Dd, hS, g, ?_, w, k⟩
  rintro c d σ' H' ⟨C, ns, fs, δ', M', rfl, z, g', hS', er, hcc, hw⟩
  exact ⟨true, hcat C hcc, fun _ a ha => ⟨P, δ', M', Dd, hS', g', XL.no, hw, k.trans z⟩, fun e => by cases e⟩
end
/-! ### try: .. except Z as n: .. -/
section
variable {X : Cx} {CR : Addr} {E : DXS} {W : WX} {pos p p2 pos' : Pos}
def dTryAs (cat : Addr → Prop) (i : Nat) (wb : DXS → DSt) (ws : Addr → Addr → DSt) : DSt := fun Dn δ M => wb (fun C ns fs δ' M' => ns = [] ∧ cat C ∧ ∀ a, ws C a { nx := fun δ2 M2 => Dn.nx (δ2.set i none) M2, rt := Dn.rt, bk := fun δ2 M2 => Dn.bk (δ2.set i none) M2, ct := fun δ2 M2 => Dn.ct (δ2.set i none) M2 } (δ'.set i (some (.ref a))) M') Dn δ M
theorem s_tryAs {x n : Str} {Z : Addr} {i : Nat} {cat : Addr → Prop} {body suite : List Stmt} {b0 : Stmt} {np : Pos} {wb : DXS → DSt} {ws : Addr → Addr → DSt} (hcat : ∀ C, cat C → PySem.W.exmOne X.K (.ref C) (.ref Z) = some true) (hc : Names X x (.ref Z)) (tk : Takes X W) (hN : X.N.Nodup)
    (hb : ∀ (E' : DXS) (W' : WX) (pn : List (Addr × Obj)) (xe : Value → Shared → Prop), Takes (X.tr pn xe) W' → PassesOwn (model X.prog X.w) X.A X.env xe → PDSs (X.tr pn xe) (bs X CR E' W') body (wb E'))
    (hsu : ∀ (a : Addr) (oe : Obj) (C : Addr) (pn : List (Addr × Obj)), cat C → Zc (.ref C) none oe → (∃ vs, oe.data = .fields vs) → PDSs (X.suite a ((a, oe) :: pn)) (bs X CR noE noW) (b0 :: suite) (ws C a))
    (hi : X.N[i]? = some n := by rfl) (hln : X.env.kindOf n = some .local := by rfl) (hs : X.stack = X.env :: X.outer := by rfl) (hf : X.env.frame = some X.env.locals := by rfl) :
    PDS X (bs X CR E W) (.Try body [.ExceptHandler (some (.Name x np)) (some n) (b0 :: suite) pos'] [] [] pos) (dTryAs cat i wb ws) := by
  refine (ps_try_as (tb := fun W' Dn σ H => ∃ E', lS (bs X CR E' W') (wb E') Dn σ H) (ts := fun a cls d Dn σ H => ∃ C, cat C ∧ cls = .ref C ∧ d = none ∧ lS (bs X CR noE noW) (ws C a) Dn σ H) (Wout := W) hs hf hN hi hln hc tk
    (fun W' pn xe tk' po => ⟨fun p s σ H Dn I ⟨E', q⟩ => (hb E' W' pn xe tk' po).run p s σ H Dn I q⟩) (fun a oe cls d pn hz hv => ⟨fun p s σ H Dn I ⟨C, h1, h2, h3, q⟩ => by
      subst h2; subst h3
      exact (hsu a oe C pn h1 hz hv).run p s σ H Dn I q⟩)).imp fun Dn σ H h => ?_
  obtain ⟨P, δ, M, Dd, hS, g, x, w, k⟩ := h
  refine ⟨_, P, δ, M, Dd, hS, g, ?_, w, k⟩
  rintro c d σ' H' ⟨C, ns, fs, δ', M', rfl, z, g', hS', er, hns, hcc, hw⟩
  have hd : d = none := by
    rcases er with ⟨_, _, e⟩ | ⟨nn, _⟩
    · exact e
    · exact absurd hns nn
  have kt := k.trans z
  refine ⟨true, hcat C hcc, fun _ a ha => ⟨C, hcc, rfl, hd, P, _, M', _, hS'.set (d := .ref a) (v := .ref a) rfl, g', XL.no, hw a, ?_⟩, fun e => by cases e⟩
  exact ⟨fun σ H' ⟨δ2, M2, z2, g2, hS2, q⟩ => kt.nx _ H' ⟨_, M2, z2, g2, hS2.unset, q⟩, kt.rt, fun σ H' ⟨δ2, M2, z2, g2, hS2, q⟩ => kt.bk _ H' ⟨_, M2, z2, g2, hS2.unset, q⟩, fun σ H' ⟨δ2, M2, z2, g2, hS2, q⟩ => kt.ct _ H' ⟨_, M2, z2, g2, hS2.unset, q⟩⟩
/-- isinstance(e, c) of the caught error -/
def dIsE (w : DE) (a : Addr) (r : Bool) : DE := fun δ M Q => w δ M fun d M1 => d = .ref a ∧ Q (.bl r) M1
theorem d_isE {a D : Addr} {oe : Obj} {pn : List (Addr × Obj)} {e c : Expr} {w : DE} {cv : V} {u : Value} {r : Bool} (C : ExcC X.K D) (hz : Zc (.ref D) none oe) (hf : ∃ vs, oe.data = .fields vs) (hm : X.mg "isinstance" = none)
    (he : PD (X.suite a ((a, oe) :: pn)) (bs X CR noE noW) e w) (hcl : PE (X.suite a ((a, oe) :: pn)) c (tC cv)) (hu : ∀ u', RelV cv u' → u' = u) (hk : PySem.W.kitOne X.K (.ref D) u = some r) (hg : Gl X "isinstance" := by rfl)
    (hs : starEach [e, c] X.env = (false, eval e X.env) :: starEach [c] X.env := by rfl) (hs2 : starEach [c] X.env = (false, eval c X.env) :: starEach [] X.env := by rfl) (hpl : (backTo pos (starEach [c] X.env)).any (·.1) = false := by rfl) :
    PD (X.suite a ((a, oe) :: pn)) (bs X CR noE noW) (.Call (.Name "isinstance" p) [e, c] [] pos) (dIsE w a r) := by
  refine (pe_callB (call_isE C hz hf) hg hm (by decide +kernel) (pa_cons he (pa_cons hcl pa_nil hs2) hs) (he := hs) (hpl := hpl)).imp fun σ H Q h => ?_
  obtain ⟨P, δ, M, Qd, hS, g, x, w, k⟩ := h
  refine ⟨P, δ, M, _, hS, g, x, w, fun v H1 ⟨d, M1, z1, g1, r1, ed, q⟩ => ?_⟩
  subst ed
  rw [show v = .ref a from r1]
  exact ⟨cv, u, r, rfl, hu, hk, k _ _ ⟨.bl r, M1, z1, g1, rfl, q⟩⟩
end
structure ErrS (K : PySem.W.Frag) (mg : Str → Option Value) (Z S : Addr) : Prop where
  ec : ExcC K Z
  g : mg "SurveyError" = some (.ref S)
  s : PySem.W.kitOne K (.ref Z) (.ref S) = some true
  v : PySem.W.kitOne K (.ref Z) (.type "ValueError") = some true
  vf : mg "ValueError" = none
def zCk (K : PySem.W.Frag) : Bool :=
  He.eqO (PySem.W.findIn K (.ref (He.ga K "ZeroDivisor")) "__getattribute__") (some (some (.builtin "BaseException.__getattribute__"))) && (He.eqO (PySem.W.findIn K (.ref (He.ga K "ZeroDivisor")) "__getattr__") (some none) &&
  (decide (PySem.W.subIn K (.ref (He.ga K "ZeroDivisor")) (.type "BaseException") = some true) && (PySem.W.hasDictIn K (He.ga K "ZeroDivisor") && (He.eqO (PySem.W.findIn K (.ref (He.ga K "ZeroDivisor")) "__class__") (some (some (.builtin "object.__class__"))) &&
  (He.eqO (PySem.W.specialIn K (.builtin "object.__class__") "__get__") (some (some (.builtin "getset_descriptor.__get__"))) && (decide (PySem.W.takesIn K (.builtin "object.__class__") = some true) && (decide (PySem.W.mroIn K (He.ga K "ZeroDivisor") (.type "object") = some true) &&
  (He.eqO (PySem.W.nsIn K mainGlobals "SurveyError") (some (some (.ref (He.ga K "SurveyError")))) && (decide (PySem.W.kitOne K (.ref (He.ga K "ZeroDivisor")) (.ref (He.ga K "SurveyError")) = some true) &&
  (decide (PySem.W.kitOne K (.ref (He.ga K "ZeroDivisor")) (.type "ValueError") = some true) && He.eqO (PySem.W.nsIn K mainGlobals "ValueError") (some none)))))))))))
theorem zCk_ok {K : PySem.W.Frag} {h : Heap} {mg : Str → Option Value} (X : K.In h) (G : h.Ns mainGlobals mg) (c : zCk K = true) : ErrS K mg (He.ga K "ZeroDivisor") (He.ga K "SurveyError") := by
  obtain ⟨c1, c⟩ := He.ba c
  obtain ⟨c2, c⟩ := He.ba c
  obtain ⟨c3, c⟩ := He.ba c
  obtain ⟨c4, c⟩ := He.ba c
  obtain ⟨c5, c⟩ := He.ba c
  obtain ⟨c6, c⟩ := He.ba c
  obtain ⟨c7, c⟩ := He.ba c
  obtain ⟨c8, c⟩ := He.ba c
  obtain ⟨c9, c⟩ := He.ba c
  obtain ⟨c10, c⟩ := He.ba c
  obtain ⟨c11, c12⟩ := He.ba c
  exact ⟨⟨He.eqO_ok c1, He.eqO_ok c2, of_decide_eq_true c3, c4, He.eqO_ok c5, He.eqO_ok c6, of_decide_eq_true c7, of_decide_eq_true c8⟩, PySem.W.mg_of X G (He.eqO_ok c9), of_decide_eq_true c10, of_decide_eq_true c11, PySem.W.mg_none_of X G (He.eqO_ok c12)⟩
/-! ### a def that may raise -/
section
variable {P : Program} {w : World} {K : PySem.W.Frag} {mg : Str → Option Value} {base : Heap} {CR : Addr}
theorem okDX {x qual : Str} {st : Stmt} {f : Addr} {fd : FuncData} {N ps : List Str} {k : Nat} {sp : DSp} {wd : DXS → DSt} {dvs : List V} {kws : List (Str × V)} (F : FunD K x qual (defArgs st) (defBody st) (defScope st) dvs kws f fd) (S : FnScope N ps (defScope st))
    (der : ∀ (cdv : Value) (A : Around) (outer : List Env) (s : Shared) (H : Hp) (E : XK) (E' : DXS) (W : WX), Room k (A.deeper (envOfC qual (defScope st) s.heap.objs.size f cdv)) → Takes (cxOf (L2.CX P w) P w K mg base N qual (defScope st) f cdv A outer s H E) W →
      PDSs (cxOf (L2.CX P w) P w K mg base N qual (defScope st) f cdv A outer s H E) ⟨K, CR, E', W⟩ (defBody st) (wd E'))
    (len : ∀ ds M Q E, sp ds M Q E → ds.length = ps.length)
    (rd : ∀ ds M Q E, sp ds M Q E → wd (fun C ns fs _ M' => E C ns fs M') { nx := fun _ M' => Q .non M', rt := Q } (startD N.length ds) M) : FnOk P w K mg base (L2.CX P w) (k + 1) f fd ps (lSp K CR sp) := by
  refine F.ok S (fun vs H Q E h => ?_) (fun cdv A outer s H vs Q E hr h => ?_)
  · obtain ⟨P, ds, M, Qd, Ed, r, g, h, _⟩ := h
    rw [← r.length]
    exact len _ _ _ _ h
  · obtain ⟨P', ds, M, Qd, Ed, r, g, h, k1, k2⟩ := h
    refine ⟨lS ⟨K, CR, fun C ns fs _ M' => Ed C ns fs M', fun c d _ H' => E c d H'⟩ (wd fun C ns fs _ M' => Ed C ns fs M'), der cdv A outer s H E _ _ hr (takes_of rfl rfl rfl rfl), ?_⟩
    exact ⟨P', _, M, _, reps_start r, g, fun c d σ' H' ⟨C, ns, fs, δ', M', e, z, g', _, er, q⟩ => k2 c d H' ⟨C, ns, fs, M', e, z, g', er, q⟩, rd ds M Qd Ed h, ⟨fun σ H' ⟨δ', M', z, g', _, q⟩ => k1 .non H' ⟨.non, M', z, g', rfl, q⟩, k1, fun _ _ ⟨_, _, _, _, _, q⟩ => q.elim, fun _ _ ⟨_, _, _, _, _, q⟩ => q.elim⟩⟩
end
/-! ### Ratio(..) that may raise -/
def sp_initX (CR Z : Addr) : DSp := fun ds M Q Ex => ∃ (p : Addr) (a b : Int), ds = [.ref p, .int a, .int b] ∧ M p = some (.ins CR [] []) ∧ (b = 0 → Ex Z [] [] M) ∧
  (b ≠ 0 → szB b ∧ Q .non (mput M p (.ins CR ["top", "bottom"] [.int (Rat.divInt a b).num, .int (Rat.divInt a b).den])))
def MkXD (Z : Addr) : List D → Mem → DK → DX → Prop := fun ds M Q Ex => match ds with
  | [.int a] => Q (.rat (a : Rat)) M
  | [.int a, .int b] => (b = 0 → Ex Z [] [] M) ∧ (b ≠ 0 → szB b ∧ Q (.rat (Rat.divInt a b)) M)
  | _ => False
def dMkX (Z : Addr) (E : DXS) (t : DA) : DE := fun δ M Q => t δ M fun ds M1 => MkXD Z ds M1 Q fun C ns fs M' => E C ns fs δ M'
structure MkOkX (P : Program) (w : World) (K : PySem.W.Frag) (mg : Str → Option Value) (base : Heap) (CR Z : Addr) : Prop where
  ex : ∃ f fd d1, Mk K CR f ∧ FnOk P w K mg base (L2.CX P w) 36 f fd ["self", "top", "bottom"] (lSp K CR (sp_initX CR Z)) ∧ Binds K fd ["self", "top", "bottom"] [] ∧ Binds K fd ["self", "top", "bottom"] [d1] ∧ Vals [V.int 1] [d1]
theorem MkXD.cases {Z : Addr} {ds : List D} {M : Mem} {Q : DK} {Ex : DX} (h : MkXD Z ds M Q Ex) : ∃ (a b : Int), (ds = [.int a, .int b] ∨ (ds = [.int a] ∧ b = 1)) ∧ (b = 0 → Ex Z [] [] M) ∧ (b ≠ 0 → szB b ∧ Q (.rat (Rat.divInt a b)) M) := by
  unfold MkXD at h
  split at h
  · exact ⟨_, 1, .inr ⟨rfl, rfl⟩, fun e => absurd e (by decide), fun _ => ⟨trivial, by rw [q_int]; exact h⟩⟩
  · exact ⟨_, _, .inl rfl, h⟩
  · exact h.elim
section
variable {X : Cx} {CR Z : Addr} {E : DXS} {W : WX} {pos p apos : Pos} {e : Expr} {es : List Expr} {t : DA}
theorem run_makeS {CX : CXT} {k : Nat} {f C : Addr} {fd : FuncData} {ps : List Str} {sp : Sp} {dvs : List V} {ds : List Value} {Ex : XK} {pins : List (Addr × Obj)} {σ : L2.St} {H : Hp} {s : Shared} {Q : VK} {us : List Value} {vs : List V} (M : Mk X.K C f) (F : FnOk X.prog X.w X.K X.mg X.base CX k f fd ps sp) (hr : Room (k + 1) X.A)
    (hb : Binds X.K fd ps ds) (hd : Vals dvs ds) (hx : PassesAt CX X σ Ex) (I : Inv X pins σ H s) (r : Vals vs us)
    (h : ∀ x dx, H x = none → H dx = none → dx ≠ x → sp (.ref x :: (vs ++ dvs)) (upd (upd H dx (.own x)) x (.ins C dx [])) (fun v H2 => v = .non ∧ Q (.ref x) H2) Ex) :
    (wpAny (model X.prog X.w) X.A (call (.ref C) us) (EP X pins σ Q) X.xe s) := by
  have hz := h (s.heap.objs.size + 1) s.heap.objs.size (I.hok.fresh (Nat.le_succ _)) (I.hok.fresh (Nat.le_refl _)) (Nat.ne_of_lt (Nat.lt_succ_self _))
  have J2 := Inv.made (C := C) I
  have r2 : Vals (V.ref (s.heap.objs.size + 1) :: (vs ++ dvs)) (Value.ref (s.heap.objs.size + 1) :: (us ++ ds)) := (.cons rfl (r.append hd))
  have hl : (Value.ref (s.heap.objs.size + 1) :: us ++ ds).length = ps.length := by
    rw [← F.len _ _ _ _ hz]; exact r2.length.symm
  refine wpAny_call (make_map (f := f) I.kIn M.makes M.init (beq_iff_eq.mp M.fn) (codeAny_mono
    (F.run _ X.stack _ _ ⟨Value.ref (s.heap.objs.size + 1) :: us, []⟩ (Value.ref (s.heap.objs.size + 1) :: (us ++ ds)) _ _ Ex (hr.make C us []) (J2.env0.make C us []) (hb _ (Value.ref (s.heap.objs.size + 1) :: us) J2.kIn hl) r2 hz) fun r s' hw' => ?_))
  cases r with
  | error e => exact hx pins _ _ e s' J2 hw'
  | ok fl =>
    cases fl with
    | ret u =>
      obtain ⟨v, H', I3, rv, ev, q3⟩ := J2.after hw'
      subst ev
      exact ⟨rv, V.ref (s.heap.objs.size + 1), H', I3, rfl, q3⟩
    | next => exact False.elim hw'
    | brk => exact False.elim hw'
    | cont => exact False.elim hw'
theorem make_endX {P : Addr → Prop} {H M} {Q : VK} {Ex : XK} {Qd : DK} {Ed : DX} {vs dvs : List V} {a b : Int} (g : Good ⟨X.K, CR, P⟩ H M) (rs : Reps ⟨X.K, CR, P⟩ H M [.int a, .int b] (vs ++ dvs)) (h0 : b = 0 → Ed Z [] [] M) (h1 : b ≠ 0 → szB b ∧ Qd (.rat (Rat.divInt a b)) M)
    (k : ∀ v H', LfV ⟨X.K, CR, P⟩ H M Qd v H' → Q v H') (kx : ∀ c d H', LfX ⟨X.K, CR, P⟩ H M Ed c d H' → Ex c d H') : ∀ x dx, H x = none → H dx = none → dx ≠ x →
      lSp X.K CR (sp_initX CR Z) (.ref x :: (vs ++ dvs)) (upd (upd H dx (.own x)) x (.ins CR dx [])) (fun v H2 => v = .non ∧ Q (.ref x) H2) Ex := by
  intro x dx hx hd hne
  have z1 : Fz ⟨X.K, CR, P⟩ H M (upd H dx (.own x)) M := fz_new g hd
  have g1 : Good ⟨X.K, CR, P⟩ (upd H dx (.own x)) M := good_new g hd
  have hx1 : upd H dx (.own x) x = none := by rw [upd_ne (Ne.symm hne)]; exact hx
  have z2 : Fz ⟨X.K, CR, P⟩ (upd H dx (.own x)) M (upd (upd H dx (.own x)) x (.ins CR dx [])) (mput M x (.ins CR [] [])) := fz_newM g1 hx1
  have fx := g.none hx
  have g2 : Good ⟨X.K, CR, P⟩ (upd (upd H dx (.own x)) x (.ins CR dx [])) (mput M x (.ins CR [] [])) := good_put g1 fx.2 z2 ⟨dx, [], upd_same, rfl, rfl⟩
  refine ⟨P, .ref x :: [.int a, .int b], mput M x (.ins CR [] []), fun d M2 => d = .non ∧ M2 = mput M x (.ins CR ["top", "bottom"] [.int (Rat.divInt a b).num, .int (Rat.divInt a b).den]) ∧ Qd (.rat (Rat.divInt a b)) M, fun C ns fs M2 => M2 = mput M x (.ins CR [] []) ∧ Ed C ns fs M, ⟨_, _, rfl, rfl, (rs.mono z1).mono z2⟩, g2,
    ⟨x, a, b, rfl, mput_same, fun e => ⟨rfl, h0 e⟩, fun e => ⟨(h1 e).1, rfl, by rw [mput_mput], (h1 e).2⟩⟩, ?_, ?_⟩
  · rintro v H' ⟨d, M2, z, g3, r, rfl, rfl, q⟩
    refine ⟨r, k _ _ ⟨.rat (Rat.divInt a b), mdel _ x, ((z1.trans z2).trans z).trans fz_del, good_del g3, ?_, by rw [mdel_mput fx.1]; exact q⟩⟩
    obtain ⟨dx', ws, e1, l1, rw1⟩ := g3.at_ x _ mput_same
    obtain ⟨v1, r1, rfl, h1, v2, r2, rfl, h2, h3⟩ := rw1
    rw [show r2 = [] from h3, show v1 = .int _ from h1, show v2 = .int _ from h2] at e1
    exact ⟨x, dx', rfl, ⟨mdel_same, fx.2⟩, e1⟩
  · rintro c d H' ⟨C, ns, fs, M2, e, z, g3, er, rfl, q⟩
    refine kx c d H' ⟨C, ns, fs, mdel _ x, e, ((z1.trans z2).trans z).trans fz_del, good_del g3, er.mono fz_del, by rw [mdel_mput fx.1]; exact q⟩
theorem MkOkX.d_mkX {x : Str} (T : MkOkX X.prog X.w X.K X.mg X.base CR Z) (hm : X.mg x = some (.ref CR)) (hr : Room 37 X.A) (tk : Takes X W) (ha : PDA X (bs X CR E W) (e :: es) t) (hg : Gl X x := by rfl)
    (hdb : (x == ("__debug__" : Str)) = false := by decide) (he : starEach (e :: es) X.env = (false, eval e X.env) :: starEach es X.env := by rfl) (hpl : (backTo pos (starEach es X.env)).any (·.1) = false := by rfl) : PD X (bs X CR E W) (.Call (.Name x p) (e :: es) [] pos) (dMkX Z E t) := by
  obtain ⟨f, fd, d1, mk, F, b0, b1, v1⟩ := T.ex
  refine ⟨fun pins s σ H Q I h => ?_⟩
  refine wpAny_Call_Name_kw (ld_glob I hg hm ?_ hdb)
  refine PySem.W.callWith_K (h₀ := X.base) I.ok.mod.kin mk.kp (thn (ha.run pos pins s σ H (fun vs H1 => ∃ (P : Addr → Prop) (δ : DS0) (ds : List D) (M1 : Mem) (Qd : DK), RepS ⟨X.K, CR, P⟩ H1 M1 δ σ ∧ XL ⟨X.K, CR, P⟩ H1 M1 E W ∧ Good ⟨X.K, CR, P⟩ H1 M1 ∧ Reps ⟨X.K, CR, P⟩ H1 M1 ds vs ∧ MkXD Z ds M1 Qd (fun C ns fs M' => E C ns fs δ M') ∧ ∀ v H', LfV ⟨X.K, CR, P⟩ H1 M1 Qd v H' → Q v H') I ?_) fun us s1 ⟨vs, H1, I1, r, q⟩ => ⟨I1.kIn, ?_⟩) he hpl
  · obtain ⟨P, δ, M, Qd, hS, g, x, w, k⟩ := h
    exact ⟨P, δ, M, _, hS, g, x, w, fun vs H1 ds M1 z1 g1 rs q => ⟨P, δ, ds, M1, Qd, hS.mono z1, x.trans z1, g1, rs, q, fun v H' l => k v H' (l.trans z1)⟩⟩
  · obtain ⟨P, δ, ds, M1, Qd, hS1, x1, g1, rs, q, k⟩ := q
    obtain ⟨a, b, rfl | ⟨rfl, rfl⟩, h0, h1⟩ := q.cases
    · exact run_makeS mk F hr b0 .nil (passAt tk σ) I1 r (make_endX (vs := vs) (dvs := []) g1 (by rw [List.append_nil]; exact rs) h0 h1 k (lfx_w hS1 x1))
    · exact run_makeS mk F hr b1 v1 (passAt tk σ) I1 r (make_endX (vs := vs) (dvs := [V.int 1]) g1 (rs.append (Reps.one (d := .int 1) rfl)) h0 h1 k (lfx_w hS1 x1))
/-! ### a method of a fraction that may raise -/
def dMethX (sp : DSp) (E : DXS) (wo : DE) (t : DA) : DE := fun δ M Q => wo δ M fun o M1 => ∃ q, o = .rat q ∧ t δ M1 fun ds M2 => sp (o :: ds) M2 Q fun C ns fs M' => E C ns fs δ M'
theorem d_methX {name : Str} {ps : List Str} {sp : DSp} {pl : Sem Bool} {k : Nat} {o : Expr} {wo : DE} (O : MethOk X.prog X.w X.K X.mg X.base CR name ps sp) (T : RatT X.prog X.w X.K X.mg X.base CR) (hr : Room k X.A) (tk : Takes X W) (ho : PD X (bs X CR E W) o wo) (ha : PDA X (bs X CR E W) (e :: es) t)
    (hn : ∀ q, (ratF q).lookup name = none := by intro _; rfl) (hk : 38 ≤ k := by decide)
    (hst : starEach (e :: es) X.env = (false, eval e X.env) :: starEach es X.env := by rfl) (hpl : (backTo pos (starEach es X.env)).any (·.1) = false := by rfl)
    (ht : eval (.Call (.Attribute o name apos) (e :: es) [] pos) X.env = (do
      let ov ← eval o X.env
      standAt apos.atName
      let (f, first) ← holding [ov] (getMethod ov name pl)
      callWith pos f first (backTo pos (starEach (e :: es) X.env)) (backToKw pos (keywordEach [] X.env))) := by rfl) : PD X (bs X CR E W) (.Call (.Attribute o name apos) (e :: es) [] pos) (dMethX sp E wo t) := by
  obtain ⟨f, fd, F, hb, hm⟩ := O.ex
  refine ⟨fun pins s σ H Q I h => ?_⟩
  obtain ⟨P, δ, M, Qd, hS, g, x, w, kk⟩ := h
  refine PySem.W.methodCall_KW (pl := pl) (thn (ho.run pins s σ H (fun v H' => LfV ⟨X.K, CR, P⟩ H M _ v H') I ⟨P, δ, M, _, hS, g, x, w, fun _ _ l => l⟩) fun u s1 ⟨y, H1, I1, ry, d, M1, z1, g1, r1, q, ed, q1⟩ => ?_) ht
  subst ed
  have r1' := r1
  obtain ⟨a, dx, rfl, _, ea⟩ := r1
  obtain rfl : u = Value.ref a := ry
  refine getmeth_ok I1 ea T.cls hm (hn q) ?_
  refine PySem.W.callWith_K (first := [.ref a]) (h₀ := X.base) I1.ok.mod.kin hm.kp (thn (ha.run pos pins s1 σ H1 (fun vs H2 => ∃ ds M2, Fz ⟨X.K, CR, P⟩ H1 M1 H2 M2 ∧ Good ⟨X.K, CR, P⟩ H2 M2 ∧ Reps ⟨X.K, CR, P⟩ H2 M2 ds vs ∧ sp (.rat q :: ds) M2 Qd fun C ns fs M' => E C ns fs δ M') I1 ⟨P, δ, M1, _, hS.mono z1, g1, x.trans z1, q1, fun vs H2 ds M2 z2 g2 rs q2 => ⟨ds, M2, z2, g2, rs, q2⟩⟩) fun us s2 ⟨vs, H2, I2, r, ds, M2, z2, g2, rs, q2⟩ => ⟨I2.kIn, ?_⟩) hst hpl
  refine run_fnS (E := fun σ c d H' => W c d σ H') (us := .ref a :: us) (vs := .ref a :: vs) F (hr.mono hk) hb (passAt tk σ) I2 (.cons rfl r) ?_
  exact ⟨P, .rat q :: ds, M2, Qd, _, ⟨_, _, rfl, r1'.mono z2, rs⟩, g2, q2, fun v H' l => kk v H' (l.trans (z1.trans z2)), lfx_w ((hS.mono z1).mono z2) (x.trans (z1.trans z2))⟩
end
def sp_overX (Z : Addr) : DSp := fun ds M Q Ex => ∃ p q, ds = [.rat p, .rat q] ∧ Sm p ∧ Sm q ∧ (q = 0 → Ex Z [] [] M) ∧ (q ≠ 0 → Q (.rat (p / q)) M)
/-- what is known of the fractions' error -/
structure RatX (P : Program) (w : World) (K : PySem.W.Frag) (mg : Str → Option Value) (base : Heap) (CR Z : Addr) : Prop where
  z : ErrC K mg "ZeroDivisor" Z
  ini : MkOkX P w K mg base CR Z
theorem mkOkX_of {P : Program} {w : World} {K : PySem.W.Frag} {mg : Str → Option Value} {base : Heap} {CR Z f : Addr} {fd : FuncData} {x qual : Str} {st : Stmt} (F : FunD K x qual (defArgs st) (defBody st) (defScope st) [V.int 1] [] f fd) (mk : Mk K CR f) (ok : FnOk P w K mg base (L2.CX P w) 36 f fd ["self", "top", "bottom"] (lSp K CR (sp_initX CR Z)))
    (h : ∀ (T : Addr) (kV doc pm : Value) (an : Option Addr) (cdv ct a b c d : Value), (∃ k, bindArgs (PySem.W.fnOf x qual (defArgs st) (defBody st) (defScope st) (.ref T) kV doc pm an cdv ct) ⟨[a, b, c], []⟩ = seqItems? (.ref T) >>= k ∧ k (some #[d]) = pure ((["self", "top", "bottom"] : List Str).zip [a, b, c])) ∧
      ∃ k, bindArgs (PySem.W.fnOf x qual (defArgs st) (defBody st) (defScope st) (.ref T) kV doc pm an cdv ct) ⟨[a, b], []⟩ = seqItems? (.ref T) >>= k ∧ k (some #[d]) = pure ((["self", "top", "bottom"] : List Str).zip [a, b, d])) : MkOkX P w K mg base CR Z := by
  obtain ⟨ds, v0, b0⟩ := F.binds1 (ps := ["self", "top", "bottom"]) 3 1 (by simp) rfl (fun T kV doc pm an cdv ct us its h1 h2 => match us, its, h1, h2 with
    | [a, b, c], [d], _, _ => (h T kV doc pm an cdv ct a b c d).1)
  obtain ⟨es, v1, b1⟩ := F.binds1 (ps := ["self", "top", "bottom"]) 2 0 (by simp) rfl (fun T kV doc pm an cdv ct us its h1 h2 => match us, its, h1, h2 with
    | [a, b], [d], _, _ => (h T kV doc pm an cdv ct a b d d).2)
  cases v0
  match es, v1 with
  | [d1], v1 => exact ⟨f, fd, d1, mk, ok, b0, b1, v1⟩
open PySem PySem.SeqAt
open MeetsSeq MeetsSeq2 MeetsSeq3 SeqRoads2
/-! ### == and != of tuples, whatever the answer -/
section
variable {prog : Program} {w : World} {A : Around} {R : Result → Shared → Prop}
/-- the answer: all pairs equal and as many items -/
def tupAns (c : Nat → Bool) (m n : Nat) : Bool := (List.range (min m n)).all c && m == n
theorem tup_eqB (l b : Addr) (items items2 : Array Value) (n n2 : Nat) (dd dd2 : Option Addr) (sl sl2 : Array (Option Value)) (c : Nat → Bool) (I : Nat → Shared → Prop)
    (turn : ∀ i (h1 : i < items.size) (h2 : i < items2.size) s, I i s → wpAny (model prog w) A.in1 (eqBool items[i] items2[i]) (fun r s' => r = c i ∧ I (i + 1) s') (fun e s' => R (.error e) s') s)
    (fin : ∀ i s, I i s → R (.ok (.ret (.bool (tupAns c items.size items2.size)))) s) {s : Shared} (hl1 : s.heap.get? l = some { cls := .type "tuple", dict := dd, data := .seq items n, slots := sl }) (hb1 : s.heap.get? b = some { cls := .type "tuple", dict := dd2, data := .seq items2 n2, slots := sl2 }) (h : I 0 s) :
    wpAny (model prog w) A.in1 (Builtin.«tuple.__eq__» ⟨[.ref l, .ref b], []⟩) (GQ.FinOf prog w A R) (fun e s' => R (.error e) s') s := by
  have f2 := AutoSeq1.sub_tuple_tuple
  have hZ : (items.toList.zip items2.toList).length = min items.size items2.size := by simp
  have h0 := h
  obtain ⟨hp, g, d, tk, os⟩ := s
  wp_walk using AutoSeq1.wpAny_loadPart' hl1, AutoSeq1.wpAny_loadPart' hb1, wpAny_forIn_list _ (fun rest b s' => ∃ i, I i s' ∧ b.1 = none ∧ rest = (items.toList.zip items2.toList).drop i ∧ i ≤ min items.size items2.size ∧ (List.range i).all c = true) _
  case turn =>
    rintro ⟨y, x⟩ rest b s' ⟨i, hI, hb', hz, hi, hall⟩
    have hlt : i < (items.toList.zip items2.toList).length := by
      rcases Nat.lt_or_ge i (items.toList.zip items2.toList).length with h' | h'
      · exact h'
      · rw [List.drop_of_length_le h'] at hz; cases hz
    have hm : i < min items.size items2.size := hZ ▸ hlt
    have h1 : i < items.size := by omega
    have h2 : i < items2.size := by omega
    rw [List.drop_eq_getElem_cons hlt] at hz
    injection hz with hyx hrest
    obtain rfl : y = items[i] := by have := congrArg Prod.fst hyx; simpa using this
    obtain rfl : x = items2[i] := by have := congrArg Prod.snd hyx; simpa using this
    refine wpAny_bind (wpAny_mono (turn i h1 h2 s' hI) (fun r s2 q => ?_) fun _ _ z => z)
    obtain ⟨hr, hI2⟩ := q
    subst hr
    cases hc : c i with
    | true =>
      have all2 : (List.range (i + 1)).all c = true := by rw [List.range_succ, List.all_append, hall]; simp [hc]
      wp_walk
      exact ⟨i + 1, hI2, rfl, hrest, by omega, all2⟩
    | false =>
      have no : tupAns c items.size items2.size = false := by
        unfold tupAns
        have : (List.range (min items.size items2.size)).all c = false := by
          rw [List.all_eq_false]
          exact ⟨i, List.mem_range.mpr hm, by rw [hc]; exact Bool.false_ne_true⟩
        rw [this]; rfl
      have q := fin (i + 1) s2 hI2
      rw [no] at q
      wp_walk
      exact q
  case fin =>
    rintro ⟨b1, b2⟩ s' ⟨i, hI, hb', hz, hi, hall⟩
    simp only at hb'
    subst hb'
    have hge : min items.size items2.size ≤ i := by
      rcases Nat.lt_or_ge i (items.toList.zip items2.toList).length with h' | h'
      · rw [List.drop_eq_getElem_cons h'] at hz; cases hz
      · exact hZ ▸ h'
    have hi' : i = min items.size items2.size := by omega
    have q := fin i s' hI
    unfold tupAns at q
    rw [← hi', hall] at q
    wp_walk
    simpa [Builtin.Tuple.tupleCompareSizes, bne] using q
  case h =>
    exact ⟨0, h0, rfl, rfl, Nat.zero_le _, rfl⟩
theorem tup_neB (l b : Addr) (items items2 : Array Value) (n n2 : Nat) (dd dd2 : Option Addr) (sl sl2 : Array (Option Value)) (c : Nat → Bool) (I : Nat → Shared → Prop)
    (turn : ∀ i (h1 : i < items.size) (h2 : i < items2.size) s, I i s → wpAny (model prog w) A.in1 (eqBool items[i] items2[i]) (fun r s' => r = c i ∧ I (i + 1) s') (fun e s' => R (.error e) s') s)
    (fin : ∀ i s, I i s → R (.ok (.ret (.bool (!tupAns c items.size items2.size)))) s) {s : Shared} (hl1 : s.heap.get? l = some { cls := .type "tuple", dict := dd, data := .seq items n, slots := sl }) (hb1 : s.heap.get? b = some { cls := .type "tuple", dict := dd2, data := .seq items2 n2, slots := sl2 }) (h : I 0 s) :
    wpAny (model prog w) A.in1 (Builtin.«tuple.__ne__» ⟨[.ref l, .ref b], []⟩) (GQ.FinOf prog w A R) (fun e s' => R (.error e) s') s := by
  have f2 := AutoSeq1.sub_tuple_tuple
  have hZ : (items.toList.zip items2.toList).length = min items.size items2.size := by simp
  have h0 := h
  obtain ⟨hp, g, d, tk, os⟩ := s
  wp_walk using AutoSeq1.wpAny_loadPart' hl1, AutoSeq1.wpAny_loadPart' hb1, wpAny_forIn_list _ (fun rest b s' => ∃ i, I i s' ∧ b.1 = none ∧ rest = (items.toList.zip items2.toList).drop i ∧ i ≤ min items.size items2.size ∧ (List.range i).all c = true) _
  case turn =>
    rintro ⟨y, x⟩ rest b s' ⟨i, hI, hb', hz, hi, hall⟩
    have hlt : i < (items.toList.zip items2.toList).length := by
      rcases Nat.lt_or_ge i (items.toList.zip items2.toList).length with h' | h'
      · exact h'
      · rw [List.drop_of_length_le h'] at hz; cases hz
    have hm : i < min items.size items2.size := hZ ▸ hlt
    have h1 : i < items.size := by omega
    have h2 : i < items2.size := by omega
    rw [List.drop_eq_getElem_cons hlt] at hz
    injection hz with hyx hrest
    obtain rfl : y = items[i] := by have := congrArg Prod.fst hyx; simpa using this
    obtain rfl : x = items2[i] := by have := congrArg Prod.snd hyx; simpa using this
    refine wpAny_bind (wpAny_mono (turn i h1 h2 s' hI) (fun r s2 q => ?_) fun _ _ z => z)
    obtain ⟨hr, hI2⟩ := q
    subst hr
    cases hc : c i with
    | true =>
      have all2 : (List.range (i + 1)).all c = true := by rw [List.range_succ, List.all_append, hall]; simp [hc]
      wp_walk
      exact ⟨i + 1, hI2, rfl, hrest, by omega, all2⟩
    | false =>
      have no : tupAns c items.size items2.size = false := by
        unfold tupAns
        have : (List.range (min items.size items2.size)).all c = false := by
          rw [List.all_eq_false]
          exact ⟨i, List.mem_range.mpr hm, by rw [hc]; exact Bool.false_ne_true⟩
        rw [this]; rfl
      have q := fin (i + 1) s2 hI2
      rw [no] at q
      wp_walk
      exact q
  case fin =>
    rintro ⟨b1, b2⟩ s' ⟨i, hI, hb', hz, hi, hall⟩
    simp only at hb'
    subst hb'
    have hge : min items.size items2.size ≤ i := by
      rcases Nat.lt_or_ge i (items.toList.zip items2.toList).length with h' | h'
      · rw [List.drop_eq_getElem_cons h'] at hz; cases hz
      · exact hZ ▸ h'
    have hi' : i = min items.size items2.size := by omega
    have q := fin i s' hI
    unfold tupAns at q
    rw [← hi', hall] at q
    wp_walk
    simpa [Builtin.Tuple.tupleCompareSizes, bne] using q
  case h =>
    exact ⟨0, h0, rfl, rfl, Nat.zero_le _, rfl⟩
end
section
open PySem.Spec PyProof.Rows L2
/-- answers of == that are known of data -/
abbrev Ans := D → D → Option Bool
def ansR : Ans := fun a b => match a, b with
  | .rat p, .rat q => some (decide (p = q))
  | _, _ => none
/-- item by item -/
def ansTs (f : Ans) : List D → List D → Option (List Bool)
  | x :: xs, y :: ys => (f x y).bind fun r => (ansTs f xs ys).map fun rs => r :: rs
  | _, _ => some []
def ansT (f : Ans) : Ans := fun a b => match a, b with
  | .tup xs, .tup ys => (ansTs f xs ys).map fun rs => rs.all id && xs.length == ys.length
  | _, _ => none
variable {X : Cx} {CR : Addr}
/-- inside a built-in: == of two values that stand for data -/
def EqOk (X : Cx) (CR : Addr) (k : Nat) (f : Ans) : Prop :=
  ∀ (A : Around) (pins : List (Addr × Obj)) (s : Shared) (σ : L2.St) (H : Hp) (P : Addr → Prop) (M : Mem) (a b : D) (x y : V) (u v : Value) (r : Bool), Sub X k A → Inv X pins σ H s → RelV x u → RelV y v → Good ⟨X.K, CR, P⟩ H M → Rep ⟨X.K, CR, P⟩ H M a x → Rep ⟨X.K, CR, P⟩ H M b y → f a b = some r →
    wpAny (model X.prog X.w) A (eqBool u v) (fun r' s' => r' = r ∧ ∃ H', Inv X pins σ H' s' ∧ Fz ⟨X.K, CR, P⟩ H M H' M ∧ Good ⟨X.K, CR, P⟩ H' M) X.xe s
theorem rep_rat_inj {O : Own} {H M} {p q : Rat} {x : V} (h1 : Rep O H M (.rat p) x) (h2 : Rep O H M (.rat q) x) : p = q := by
  obtain ⟨a, dx, rfl, _, e1⟩ := h1
  obtain ⟨b, dy, e, _, e2⟩ := h2
  cases e
  rw [e1] at e2
  injection e2 with e2
  injection e2 with _ _ e3
  unfold ratF at e3
  simp only [List.cons.injEq, Prod.mk.injEq, V.int.injEq, and_true, true_and] at e3
  exact (q_eq p q).mpr e3
theorem eqOk_rat (T : RatT X.prog X.w X.K X.mg X.base CR) : EqOk X CR 38 ansR := by
  intro A pins s σ H P M a b x y u v r sb I ru rv g ra rb h
  obtain ⟨p, q, rfl, rfl, hr⟩ : ∃ p q, a = .rat p ∧ b = .rat q ∧ decide (p = q) = r := by
    unfold ansR at h
    split at h
    · exact ⟨_, _, rfl, rfl, by injection h⟩
    · cases h
  obtain ⟨f, fd, F, hb, hs, hf⟩ := T.eq.ex
  have rs : Reps ⟨X.K, CR, P⟩ H M [.rat p, .rat q] [x, y] := ⟨_, _, rfl, ra, _, _, rfl, rb, rfl⟩
  obtain ⟨tb, lb, nf⟩ := eqB_look (d := .rat q) (p := p) (r := decide (p = q)) T.isf I rv rb rfl
  have ra' := ra
  have rb' := rb
  obtain ⟨a, dx, rfl, _, ha⟩ := ra
  obtain ⟨b, dy, rfl, fb, hb'⟩ := rb
  obtain rfl : u = Value.ref a := ru
  obtain rfl : v = Value.ref b := rv
  obtain ⟨mA, J, _⟩ := ins_get I.hok ha
  obtain ⟨od, J, _⟩ := J.look
  obtain ⟨m, hF⟩ := I.fr
  by_cases hab : a = b
  · subst hab
    have e : p = q := rep_rat_inj ra' rb'
    exact SeqAt.EqAt.same (A := A) (s := s) (.ref a) X.prog X.w X.xe _ ⟨by rw [← hr, decide_eq_true e], H, I, Fz.refl, g⟩
  · refine GQ.eqBool_refG hab ?_
    refine PySem.W.cmp_K (op := .Eq) sb.room.units0 hF I.ok.mod.kin J lb nf hs hf ?_
    have e0 : Env0 X.prog X.w X.K X.mg X.base A X.stack s H := by
      have e := I.env0
      exact ⟨by rw [sb.fr]; exact e.frames, e.mod, e.bs, e.bsz, e.funs, e.frf, e.hok, e.bare⟩
    have hsp : lSp X.K CR sp_eq [.ref a, .ref b] H (fun v H' => v = .bl r ∧ Fz ⟨X.K, CR, P⟩ H M H' M ∧ Good ⟨X.K, CR, P⟩ H' M) E0 := by
      refine lSp_of (Qd := fun d M' => d = .bl r ∧ M' = M) g rs ⟨p, .rat q, r, rfl, by rw [← hr]; rfl, rfl, rfl⟩ fun v H' ⟨d, M', z, g', rr, e, em⟩ => ?_
      subst e; subst em
      exact ⟨rr, z, g'⟩
    refine wpAny_call (codeAny_mono (F.run A X.stack s H ⟨[.ref a, .ref b], []⟩ [.ref a, .ref b] [.ref a, .ref b] _ E0 sb.room e0 (by simpa using hb s [.ref a, .ref b] I.kIn rfl) (.cons rfl (.cons rfl .nil)) hsp) fun r' s' hq => ?_)
    cases r' with
    | error e => exact passL pins σ H s e s' I hq
    | ok fl =>
      cases fl with
      | ret w =>
        obtain ⟨z, H', I', rz, ez, q1, q2⟩ := I.after hq
        subst ez
        obtain rfl : w = Value.bool _ := rz
        exact ⟨r, rfl, rfl, H', I', q1, q2⟩
      | next => exact False.elim hq
      | brk => exact False.elim hq
      | cont => exact False.elim hq
/-- one value that stands for both: the answer is True -/
def AnsRefl (f : Ans) : Prop := ∀ (O : Own) (H : Hp) (M : Mem) (d e : D) (x : V) (r : Bool), Rep O H M d x → Rep O H M e x → f d e = some r → r = true
theorem refl_rat : AnsRefl ansR := fun O H M d e x r h1 h2 h => by
  unfold ansR at h
  split at h
  · have := rep_rat_inj h1 h2
    injection h with h
    rw [← h, decide_eq_true this]
  · cases h
theorem ansTs_get {f : Ans} : ∀ {xs ys : List D} {rs : List Bool}, ansTs f xs ys = some rs → rs.length = min xs.length ys.length ∧ ∀ (i : Nat) (a b : D), xs[i]? = some a → ys[i]? = some b → f a b = some (rs.getD i false)
  | [], ys, rs, h => by
    simp [ansTs] at h; subst h
    exact ⟨by simp, fun i a b e _ => by simp at e⟩
  | x :: xs, [], rs, h => by
    simp [ansTs] at h; subst h
    exact ⟨by simp, fun i a b _ e => by simp at e⟩
  | x :: xs, y :: ys, rs, h => by
    unfold ansTs at h
    obtain ⟨r, e1, h⟩ := Option.bind_eq_some_iff.mp h
    obtain ⟨rs', e2, rfl⟩ := Option.map_eq_some_iff.mp h
    obtain ⟨l, g⟩ := ansTs_get e2
    refine ⟨by simp only [List.length_cons]; omega, fun i a b h1 h2 => ?_⟩
    cases i with
    | zero => simp at h1 h2; subst h1; subst h2; simpa using e1
    | succ i => simpa using g i a b (by simpa using h1) (by simpa using h2)
theorem all_range (rs : List Bool) : (List.range rs.length).all (fun i => rs.getD i false) = rs.all id := by
  rw [Bool.eq_iff_iff, List.all_eq_true, List.all_eq_true]
  constructor
  · intro h x hx
    obtain ⟨i, hi, rfl⟩ := List.getElem_of_mem hx
    have := h i (List.mem_range.mpr hi)
    simpa [List.getD_eq_getElem?_getD, List.getElem?_eq_getElem hi] using this
  · intro h i hi
    have hi' := List.mem_range.mp hi
    have := h rs[i] (List.getElem_mem hi')
    simpa [List.getD_eq_getElem?_getD, List.getElem?_eq_getElem hi'] using this
theorem ansT_cases {f : Ans} {a b : D} {r : Bool} (h : ansT f a b = some r) : ∃ xs ys rs, a = .tup xs ∧ b = .tup ys ∧ ansTs f xs ys = some rs ∧ r = (rs.all id && xs.length == ys.length) := by
  unfold ansT at h
  split at h
  · obtain ⟨rs, e, h⟩ := Option.map_eq_some_iff.mp h
    exact ⟨_, _, rs, rfl, rfl, e, h.symm⟩
  · cases h
theorem refl_tup {f : Ans} (hf : AnsRefl f) : AnsRefl (ansT f) := fun O H M d e x r h1 h2 h => by
  obtain ⟨xs, ys, rs, rfl, rfl, e, rfl⟩ := ansT_cases h
  obtain ⟨a, vs, rfl, f1, r1⟩ := h1
  obtain ⟨b, ws, eb, f2, r2⟩ := h2
  cases eb
  have : vs = ws := by
    have e1 := f1.2; rw [f2.2] at e1
    injection e1 with e1; injection e1 with e1; exact e1.symm
  subst this
  obtain ⟨l, g⟩ := ansTs_get e
  have hl : xs.length = ys.length := by rw [r1.length, r2.length]
  rw [hl, beq_self_eq_true, Bool.and_true, ← all_range, List.all_eq_true]
  intro i hi
  have hi' := List.mem_range.mp hi
  have hx : i < xs.length := by omega
  have hy : i < ys.length := by omega
  obtain ⟨v, ev, rv⟩ := r1.get (List.getElem?_eq_getElem hx)
  obtain ⟨w, ew, rw'⟩ := r2.get (List.getElem?_eq_getElem hy)
  rw [ev] at ew; cases ew
  exact hf O H M _ _ v _ rv rw' (g i _ _ (List.getElem?_eq_getElem hx) (List.getElem?_eq_getElem hy))
/-- what the loop over the pairs keeps -/
def TupI (X : Cx) (CR : Addr) (P : Addr → Prop) (pins : List (Addr × Obj)) (σ : L2.St) (H : Hp) (M : Mem) (_ : Nat) (s' : Shared) : Prop := ∃ H', Inv X pins σ H' s' ∧ Fz ⟨X.K, CR, P⟩ H M H' M ∧ Good ⟨X.K, CR, P⟩ H' M
theorem tup_turn {k : Nat} {f : Ans} (hf : EqOk X CR k f) {A : Around} {pins : List (Addr × Obj)} {σ : L2.St} {H : Hp} {P : Addr → Prop} {M : Mem} {xs ys : List D} {rs : List Bool} {vs ws : List V} {its its2 : List Value} (sb : Sub X (k + 1) A)
    (e : ansTs f xs ys = some rs) (r1 : Reps ⟨X.K, CR, P⟩ H M xs vs) (r2 : Reps ⟨X.K, CR, P⟩ H M ys ws) (v1 : Vals vs its) (v2 : Vals ws its2) (i : Nat) (h1 : i < its.toArray.size) (h2 : i < its2.toArray.size) (s' : Shared) (l : TupI X CR P pins σ H M i s') :
    wpAny (model X.prog X.w) A.in1 (eqBool its.toArray[i] its2.toArray[i]) (fun r s2 => r = rs.getD i false ∧ TupI X CR P pins σ H M (i + 1) s2) X.xe s' := by
  obtain ⟨H1, I1, z1, g1⟩ := l
  have k1 : i < its.length := by simpa using h1
  have k2 : i < its2.length := by simpa using h2
  have x1 : i < xs.length := by rw [r1.length, v1.length]; exact k1
  have x2 : i < ys.length := by rw [r2.length, v2.length]; exact k2
  obtain ⟨v, ev, rv⟩ := r1.get (List.getElem?_eq_getElem x1)
  obtain ⟨w, ew, rw'⟩ := r2.get (List.getElem?_eq_getElem x2)
  obtain ⟨u, eu, ru⟩ := v1.get ev
  obtain ⟨u2, eu2, ru2⟩ := v2.get ew
  rw [List.getElem?_eq_getElem k1] at eu
  rw [List.getElem?_eq_getElem k2] at eu2
  have a1 : its.toArray[i] = u := by simpa using Option.some.inj eu
  have a2 : its2.toArray[i] = u2 := by simpa using Option.some.inj eu2
  rw [a1, a2]
  refine wpAny_mono (hf A.in1 pins s' σ H1 P M _ _ v w u u2 _ sb.in1 I1 ru ru2 g1 (rv.mono z1) (rw'.mono z1) ((ansTs_get e).2 i _ _ (List.getElem?_eq_getElem x1) (List.getElem?_eq_getElem x2))) (fun r s2 q => ?_) fun _ _ z => z
  obtain ⟨hr, H2, I2, z2, g2⟩ := q
  exact ⟨hr, H2, I2, z1.trans z2, g2⟩
theorem tupAns_eq {f : Ans} {xs ys : List D} {rs : List Bool} {m n : Nat} (e : ansTs f xs ys = some rs) (h1 : m = xs.length) (h2 : n = ys.length) : tupAns (fun i => rs.getD i false) m n = (rs.all id && xs.length == ys.length) := by
  unfold tupAns
  rw [h1, h2, ← (ansTs_get e).1, all_range]
theorem rcT {k : Nat} {f : Ans} (hf : EqOk X CR k f) {A : Around} {pins : List (Addr × Obj)} {s : Shared} {σ : L2.St} {H : Hp} {P : Addr → Prop} {M : Mem} {xs ys : List D} {rs : List Bool} {vs ws : List V} {a b : Addr} (sb : Sub X (k + 1) A) (I : Inv X pins σ H s) (g : Good ⟨X.K, CR, P⟩ H M)
    (fa : FT ⟨X.K, CR, P⟩ H M a vs) (fb : FT ⟨X.K, CR, P⟩ H M b ws) (r1 : Reps ⟨X.K, CR, P⟩ H M xs vs) (r2 : Reps ⟨X.K, CR, P⟩ H M ys ws) (e : ansTs f xs ys = some rs) :
    wpAny (model X.prog X.w) A (richCompare .Eq (.ref a) (.ref b)) (fun v s' => v = .bool (rs.all id && xs.length == ys.length) ∧ TupI X CR P pins σ H M 0 s') X.xe s := by
  obtain ⟨its, v1, e1, _⟩ := I.tuple fa.sq
  obtain ⟨its2, v2, e2, _⟩ := I.tuple fb.sq
  have l1 : its.toArray.size = xs.length := by rw [List.size_toArray, ← v1.length, r1.length]
  have l2 : its2.toArray.size = ys.length := by rw [List.size_toArray, ← v2.length, r2.length]
  obtain ⟨⟨cls, dd, data, sl⟩, ho, hc, n, hd⟩ := id e1
  obtain ⟨⟨cls2, dd2, data2, sl2⟩, ho2, hc2, n2, hd2⟩ := id e2
  simp only at hc hd hc2 hd2
  subst hc hd hc2 hd2
  refine wpAny_richCompare_same_room (op := .Eq) ⟨_, ho, rfl⟩ ⟨_, ho2, rfl⟩ PySem.F.slot_tuple_eq (GQ.call_here PySem.F.slot_tuple_eq ⟨_, ho, rfl⟩ PySem.F.entry_tuple_eq (PySem.F.args_tuple_eq_2 _ _) ?_) sb.room.units0
  refine tup_eqB (R := wants (fun v s' => v ≠ .notImplemented ∧ (v = .bool (rs.all id && xs.length == ys.length) ∧ TupI X CR P pins σ H M 0 s')) X.xe) a b its.toArray its2.toArray n n2 dd dd2 sl sl2 (fun i => rs.getD i false) (TupI X CR P pins σ H M) (fun i h1 h2 s' q => tup_turn hf sb e r1 r2 v1 v2 i h1 h2 s' q) (fun i s' q => ?_) ho ho2 ⟨H, I, Fz.refl, g⟩
  exact ⟨fun x => (nomatch x), by rw [tupAns_eq e l1 l2], q⟩
theorem rcTn {k : Nat} {f : Ans} (hf : EqOk X CR k f) {A : Around} {pins : List (Addr × Obj)} {s : Shared} {σ : L2.St} {H : Hp} {P : Addr → Prop} {M : Mem} {xs ys : List D} {rs : List Bool} {vs ws : List V} {a b : Addr} (sb : Sub X (k + 1) A) (I : Inv X pins σ H s) (g : Good ⟨X.K, CR, P⟩ H M)
    (fa : FT ⟨X.K, CR, P⟩ H M a vs) (fb : FT ⟨X.K, CR, P⟩ H M b ws) (r1 : Reps ⟨X.K, CR, P⟩ H M xs vs) (r2 : Reps ⟨X.K, CR, P⟩ H M ys ws) (e : ansTs f xs ys = some rs) :
    wpAny (model X.prog X.w) A (richCompare .NotEq (.ref a) (.ref b)) (fun v s' => v = .bool (!(rs.all id && xs.length == ys.length)) ∧ TupI X CR P pins σ H M 0 s') X.xe s := by
  obtain ⟨its, v1, e1, _⟩ := I.tuple fa.sq
  obtain ⟨its2, v2, e2, _⟩ := I.tuple fb.sq
  have l1 : its.toArray.size = xs.length := by rw [List.size_toArray, ← v1.length, r1.length]
  have l2 : its2.toArray.size = ys.length := by rw [List.size_toArray, ← v2.length, r2.length]
  obtain ⟨⟨cls, dd, data, sl⟩, ho, hc, n, hd⟩ := id e1
  obtain ⟨⟨cls2, dd2, data2, sl2⟩, ho2, hc2, n2, hd2⟩ := id e2
  simp only at hc hd hc2 hd2
  subst hc hd hc2 hd2
  refine wpAny_richCompare_same_room (op := .NotEq) ⟨_, ho, rfl⟩ ⟨_, ho2, rfl⟩ PySem.F.slot_tuple_ne (GQ.call_here PySem.F.slot_tuple_ne ⟨_, ho, rfl⟩ PySem.F.entry_tuple_ne (PySem.F.args_tuple_ne_2 _ _) ?_) sb.room.units0
  refine tup_neB (R := wants (fun v s' => v ≠ .notImplemented ∧ (v = .bool (!(rs.all id && xs.length == ys.length)) ∧ TupI X CR P pins σ H M 0 s')) X.xe) a b its.toArray its2.toArray n n2 dd dd2 sl sl2 (fun i => rs.getD i false) (TupI X CR P pins σ H M) (fun i h1 h2 s' q => tup_turn hf sb e r1 r2 v1 v2 i h1 h2 s' q) (fun i s' q => ?_) ho ho2 ⟨H, I, Fz.refl, g⟩
  exact ⟨fun x => (nomatch x), by rw [tupAns_eq e l1 l2], q⟩
theorem eqOk_tup {k : Nat} {f : Ans} (hf : EqOk X CR k f) (hr : AnsRefl f) : EqOk X CR (k + 1) (ansT f) := by
  intro A pins s σ H P M a b x y u v r sb I ru rv g ra rb h
  have ra' := ra
  have rb' := rb
  obtain ⟨xs, ys, rs, rfl, rfl, e, er⟩ := ansT_cases h
  obtain ⟨a, vs, rfl, fa, r1⟩ := ra
  obtain ⟨b, ws, rfl, fb, r2⟩ := rb
  obtain rfl : u = Value.ref a := ru
  obtain rfl : v = Value.ref b := rv
  by_cases hab : a = b
  · subst hab
    exact SeqAt.EqAt.same (A := A) (s := s) (.ref a) X.prog X.w X.xe _ ⟨(refl_tup hr _ _ _ _ _ _ _ ra' rb' h).symm, H, I, Fz.refl, g⟩
  · refine GQ.eqBool_refG hab (wpAny_mono (rcT hf sb I g fa fb r1 r2 e) (fun v s' q => ?_) fun _ _ z => z)
    obtain ⟨hv, q⟩ := q
    exact ⟨r, by rw [hv, er], rfl, q⟩
/-- == and != of tuples -/
def rEqT (f : Ans) : D2 := fun a b M Q => ∃ r, ansT f a b = some r ∧ Q (.bl r) M
def rNeT (f : Ans) : D2 := fun a b M Q => ∃ r, ansT f a b = some r ∧ Q (.bl (!r)) M
theorem o_eqT {k : Nat} {f : Ans} (hf : EqOk X CR k f) (hr : Room (k + 1) X.A) : OpR X (compareOp .Eq) (l2 X.K CR (rEqT f)) := by
  intro pins s σ H x y v u Q I rx ry ⟨P, a, b, M, Qd, ra, rb, g, ⟨r, h, q⟩, kk⟩
  obtain ⟨xs, ys, rs, rfl, rfl, e, er⟩ := ansT_cases h
  obtain ⟨a, vs, rfl, fa, r1⟩ := ra
  obtain ⟨b, ws, rfl, fb, r2⟩ := rb
  obtain rfl : v = Value.ref a := rx
  obtain rfl : u = Value.ref b := ry
  show wpAny (model X.prog X.w) X.A (richCompare .Eq (.ref a) (.ref b)) (EP X pins σ Q) X.xe s
  refine wpAny_mono (rcT hf ⟨hr, rfl⟩ I g fa fb r1 r2 e) (fun v s' q2 => ?_) fun _ _ z => z
  obtain ⟨hv, H', I', z, g'⟩ := q2
  exact ⟨.bl r, H', I', by rw [hv, er]; rfl, kk _ _ ⟨.bl r, M, z, g', rfl, q⟩⟩
theorem o_neT {k : Nat} {f : Ans} (hf : EqOk X CR k f) (hr : Room (k + 1) X.A) : OpR X (compareOp .NotEq) (l2 X.K CR (rNeT f)) := by
  intro pins s σ H x y v u Q I rx ry ⟨P, a, b, M, Qd, ra, rb, g, ⟨r, h, q⟩, kk⟩
  obtain ⟨xs, ys, rs, rfl, rfl, e, er⟩ := ansT_cases h
  obtain ⟨a, vs, rfl, fa, r1⟩ := ra
  obtain ⟨b, ws, rfl, fb, r2⟩ := rb
  obtain rfl : v = Value.ref a := rx
  obtain rfl : u = Value.ref b := ry
  show wpAny (model X.prog X.w) X.A (richCompare .NotEq (.ref a) (.ref b)) (EP X pins σ Q) X.xe s
  refine wpAny_mono (rcTn hf ⟨hr, rfl⟩ I g fa fb r1 r2 e) (fun v s' q2 => ?_) fun _ _ z => z
  obtain ⟨hv, H', I', z, g'⟩ := q2
  exact ⟨.bl (!r), H', I', by rw [hv, er]; rfl, kk _ _ ⟨.bl (!r), M, z, g', rfl, q⟩⟩
/-- rows of fractions, matrices of them -/
def ansRow : Ans := ansT ansR
def ansMat : Ans := ansT ansRow
def rEqB : D2 := fun a b M Q => rEqA a b M Q ∨ rEqT ansR a b M Q ∨ rEqT ansRow a b M Q
def rNeB : D2 := fun a b M Q => rNeA a b M Q ∨ rNeT ansR a b M Q ∨ rNeT ansRow a b M Q
theorem _root_.DL.RatT.o_eqB {k : Nat} (T : RatT X.prog X.w X.K X.mg X.base CR) (hr : Room k X.A) (hk : 40 ≤ k := by decide) : OpR X (compareOp .Eq) (l2 X.K CR rEqB) :=
  op2_or (T.o_eq hr (by omega)) (op2_or (r := fun a b M Q => rEqT ansR a b M Q ∨ rEqT ansRow a b M Q) (o_eqT (eqOk_rat T) (hr.mono (by omega))) (o_eqT (eqOk_tup (eqOk_rat T) refl_rat) (hr.mono (by omega))) fun _ _ _ _ h => h) fun _ _ _ _ h => h
theorem _root_.DL.RatT.o_neB {k : Nat} (T : RatT X.prog X.w X.K X.mg X.base CR) (hr : Room k X.A) (hk : 40 ≤ k := by decide) : OpR X (compareOp .NotEq) (l2 X.K CR rNeB) :=
  op2_or (T.o_ne hr (by omega)) (op2_or (r := fun a b M Q => rNeT ansR a b M Q ∨ rNeT ansRow a b M Q) (o_neT (eqOk_rat T) (hr.mono (by omega))) (o_neT (eqOk_tup (eqOk_rat T) refl_rat) (hr.mono (by omega))) fun _ _ _ _ h => h) fun _ _ _ _ h => h
end
section
open PySem.Spec PyProof.Rows L2
variable {X : Cx} {CR : Addr}
/-- is, of two truth values -/
theorem op_isBl : OpR X (compareOp .Is) (fun x y H Q => ∃ a b, x = .bl a ∧ y = .bl b ∧ Q (.bl (a == b)) H) := by
  intro pins s σ H x y v u Q I rx ry ⟨a, b, h1, h2, q⟩
  subst h1; subst h2
  cases rx
  cases ry
  show wpAny _ _ (do return Value.bool (← isSame (.bool a) (.bool b))) _ _ _
  refine wpAny_bind (wpAny_pure ?_)
  exact wpAny_pure ⟨.bl (a == b), H, I, by cases a <;> cases b <;> rfl, q⟩
def rIsB : D2 := fun a b M Q => ∃ x y, a = .bl x ∧ b = .bl y ∧ Q (.bl (x == y)) M
theorem o_isB : OpR X (compareOp .Is) (l2 X.K CR rIsB) := op_isBl.imp fun x y H Q hh => by
  obtain ⟨P, a, b, M, Qd, ra, rb, gd, ⟨p, q, rfl, rfl, r⟩, k⟩ := hh
  exact ⟨p, q, ra, rb, k _ _ (lf_bl gd r)⟩
end
/-! ### steps of the proof's own: what is told of the data may be told otherwise -/
def Cnv (δ : DS0) (M : Mem) (δ' : DS0) (M' : Mem) : Prop := ∀ (O : Own) (H : Hp) (σ : L2.St), RepS O H M δ σ → Good O H M → Fz O H M H M' ∧ Good O H M' ∧ RepS O H M' δ' σ
theorem Cnv.refl {δ M} : Cnv δ M δ M := fun _ _ _ r g => ⟨Fz.refl, g, r⟩
theorem Cnv.trans {δ M δ1 M1 δ2 M2} (a : Cnv δ M δ1 M1) (b : Cnv δ1 M1 δ2 M2) : Cnv δ M δ2 M2 := fun O H σ r g =>
  let ⟨z, g1, r1⟩ := a O H σ r g
  let ⟨z2, g2, r2⟩ := b O H σ r1 g1
  ⟨z.trans z2, g2, r2⟩
def dGo (w : DSt) : DSt := fun D δ M => ∃ δ' M', Cnv δ M δ' M' ∧ w D δ' M'
section
variable {X : Cx} {CR : Addr} {E : DXS} {W : WX}
theorem s_go {l : List Stmt} {w : DSt} (h : PDSs X (bs X CR E W) l w) : PDSs X (bs X CR E W) l (dGo w) := by
  refine h.imp fun Dn σ H hh => ?_
  obtain ⟨P, δ, M, Dd, hS, g, x, ⟨δ', M', cv, w⟩, k⟩ := hh
  obtain ⟨z, g', hS'⟩ := cv _ _ _ hS g
  exact ⟨P, δ', M', Dd, hS', g', x.trans z, w, k.trans z⟩
end
/-- a list is let go -/
theorem cnv_frz {δ : DS0} {M : Mem} {i : Nat} {p : Addr} {xs : List D} (hi : δ[i]? = some (some (.ref p))) (h : M p = some (.lst xs)) : Cnv δ M (δ.set i (some (.lst xs))) (mdel M p) := fun O H σ r g => by
  refine ⟨fz_del, good_del g, ?_⟩
  obtain ⟨v, e, rv⟩ := r.2 i _ hi
  have := (r.mono (fz_del (p := p))).set (i := i) (rep_frz g h)
  rw [show v = .ref p from rv] at e
  have hl : i < σ.length := (List.getElem?_eq_some_iff.mp e).1
  have : σ.set i (some (.ref p)) = σ := by
    refine List.ext_getElem? fun j => ?_
    by_cases n : j = i
    · subst n; rw [List.getElem?_set_self hl, e]
    · rw [List.getElem?_set_ne (Ne.symm n)]
  rw [← this]
  assumption
/-- a list of lists: all of them are let go; ps: their places -/
def delAll (M : Mem) : List Addr → Mem
  | [] => M
  | p :: ps => mdel (delAll M ps) p
theorem delAll_ne {M : Mem} {a : Addr} : ∀ {ps : List Addr}, (∀ p, p ∈ ps → a ≠ p) → delAll M ps a = M a
  | [], _ => rfl
  | p :: ps, h => by
    show mdel (delAll M ps) p a = _
    rw [mdel_ne (h p List.mem_cons_self)]
    exact delAll_ne fun q hq => h q (List.mem_cons_of_mem _ hq)
theorem frz_all {O : Own} {H : Hp} {M : Mem} (g : Good O H M) : ∀ (ps : List Addr), Fz O H M H (delAll M ps) ∧ Good O H (delAll M ps)
  | [] => ⟨Fz.refl, g⟩
  | p :: ps => by
    obtain ⟨z, g1⟩ := frz_all g ps
    exact ⟨z.trans fz_del, good_del g1⟩
/-- what the places hold: lists of data, told by f -/
def Holds (M : Mem) (f : Addr → List D) (ps : List Addr) : Prop := ∀ p, p ∈ ps → M p = some (.lst (f p))
theorem rep_all {O : Own} {H : Hp} {M : Mem} {f : Addr → List D} (g : Good O H M) {p : Addr} {ps : List Addr} (h : M p = some (.lst (f p))) (m : p ∈ ps) : Rep O H (delAll M ps) (.lst (f p)) (.ref p) := by
  obtain ⟨vs, e, r⟩ := g.at_ p _ h
  have hd : delAll M ps p = none := by
    induction ps with
    | nil => exact absurd m (by simp)
    | cons q qs ih =>
      show mdel (delAll M qs) q p = none
      by_cases n : p = q
      · rw [n]; exact mdel_same
      · rw [mdel_ne n]; exact ih (by rcases List.mem_cons.mp m with m | m; exact absurd m n; exact m)
  exact ⟨p, vs, rfl, ⟨⟨hd, g.noP h⟩, e⟩, r.mono (frz_all g ps).1⟩
theorem reps_all {O : Own} {H : Hp} {M : Mem} {f : Addr → List D} (g : Good O H M) {qs : List Addr} : ∀ (ps : List Addr) (vs : List V), Holds M f ps → (∀ p, p ∈ ps → p ∈ qs) → Reps O H M (ps.map D.ref) vs → Reps O H (delAll M qs) (ps.map fun p => .lst (f p)) vs
  | [], vs, _, _, r => r
  | p :: ps, vs, h, m, r => by
    obtain ⟨v, us, rfl, r1, r2⟩ := r
    rw [show v = .ref p from r1]
    exact ⟨_, us, rfl, rep_all g (h p List.mem_cons_self) (m p List.mem_cons_self), reps_all g ps us (fun q hq => h q (List.mem_cons_of_mem _ hq)) (fun q hq => m q (List.mem_cons_of_mem _ hq)) r2⟩
theorem cnv_all {δ : DS0} {M : Mem} {i : Nat} {ps : List Addr} {f : Addr → List D} (hi : δ[i]? = some (some (.lst (ps.map D.ref)))) (h : Holds M f ps) : Cnv δ M (δ.set i (some (.lst (ps.map fun p => .lst (f p))))) (delAll M ps) := fun O H σ r g => by
  obtain ⟨z, g1⟩ := frz_all g ps
  refine ⟨z, g1, ?_⟩
  obtain ⟨v, e, rv⟩ := r.2 i _ hi
  obtain ⟨a, vs, rfl, fl, rs⟩ := rv
  have hl : i < σ.length := (List.getElem?_eq_some_iff.mp e).1
  have es : σ.set i (some (.ref a)) = σ := by
    refine List.ext_getElem? fun j => ?_
    by_cases n : j = i
    · subst n; rw [List.getElem?_set_self hl, e]
    · rw [List.getElem?_set_ne (Ne.symm n)]
  have := (r.mono z).set (i := i) (d := .lst (ps.map fun p => .lst (f p))) (v := .ref a) ⟨a, vs, rfl, fl.mono z, reps_all g ps vs h (fun p hp => hp) rs⟩
  rw [es] at this
  exact this
/-- a name is told no more -/
theorem cnv_drop {δ : DS0} {M : Mem} {i : Nat} : Cnv δ M (δ.set i none) M := fun O H σ r g => by
  refine ⟨Fz.refl, g, ?_⟩
  refine ⟨by simp [r.1], fun j e h => ?_⟩
  by_cases n : j = i
  · subst n
    have hj : j < δ.length := by
      have := (List.getElem?_eq_some_iff.mp h).1
      simpa using this
    rw [List.getElem?_set_self hj] at h
    cases h
  · rw [List.getElem?_set_ne (Ne.symm n)] at h
    exact r.2 j e h
/-! ### slices -/
abbrev DO := DS0 → Mem → (Option Int → Mem → Prop) → Prop
def dNoPart : DO := fun _ M Q => Q none M
def dPart (w : DE) : DO := fun δ M Q => w δ M fun d M1 => ∃ i : Int, d = .int i ∧ Q (some i) M1
def lO (B : Bs) (w : DO) : TO := fun σ H Q => ∃ P δ M Qd, RepS ⟨B.K, B.CR, P⟩ H M δ σ ∧ Good ⟨B.K, B.CR, P⟩ H M ∧ XL ⟨B.K, B.CR, P⟩ H M B.E B.W ∧ w δ M Qd ∧ ∀ o H' M', Fz ⟨B.K, B.CR, P⟩ H M H' M' → Good ⟨B.K, B.CR, P⟩ H' M' → Qd o M' → Q o H'
abbrev PDO (X : Cx) (B : Bs) (e : Option Expr) (w : DO) : Prop := PO X e (lO B w)
theorem _root_.L2.PO.imp {X : Cx} {e : Option Expr} {t t' : TO} (h : PO X e t) (i : ∀ σ H Q, t' σ H Q → t σ H Q) : PO X e t' := ⟨fun p s σ H Q I q => h.run p s σ H Q I (i σ H Q q)⟩
def cutD (xs : List D) (lo hi : Option Int) : List D := (xs.drop (HT.sIx xs.length 0 lo)).take (HT.sIx xs.length xs.length hi - HT.sIx xs.length 0 lo)
def rSlD : D → Option Int → Option Int → Mem → DK → Prop := fun d lo hi M Q => (∃ xs, d = .lst xs ∧ Q (.lst (cutD xs lo hi)) M) ∨ (∃ p xs, d = .ref p ∧ M p = some (.lst xs) ∧ Q (.lst (cutD xs lo hi)) M) ∨ ∃ xs, d = .tup xs ∧ Q (.tup (cutD xs lo hi)) M
def dSl (w : DE) (l u : DO) : DE := fun δ M Q => w δ M fun d M1 => l δ M1 fun lo M2 => u δ M2 fun hi M3 => rSlD d lo hi M3 Q
theorem Reps.cut {O H M} {ds : List D} {vs : List V} (h : Reps O H M ds vs) (lo hi : Option Int) : Reps O H M (cutD ds lo hi) (cutV vs lo hi) := by
  unfold cutD cutV
  rw [h.length]
  exact (h.drop _).take _
theorem take_all {α : Type} {xs : List α} {n : Nat} (h : xs.length ≤ n) : xs.take n = xs := List.take_of_length_le h
section
variable {X : Cx} {CR : Addr} {E : DXS} {W : WX} {e : Expr} {w : DE} {lo hi : Option Expr} {l u : DO} {pos p2 : Pos}
theorem po_noneD : PDO X (bs X CR E W) none dNoPart := PO.imp po_none fun σ H Q ⟨P, δ, M, Qd, hS, g, x, w, k⟩ => k none H M Fz.refl g w
theorem po_someD (h : PD X (bs X CR E W) e w) : PDO X (bs X CR E W) (some e) (dPart w) := by
  refine PO.imp (po_some h) fun σ H Q hh => ?_
  obtain ⟨P, δ, M, Qd, hS, g, x, w, k⟩ := hh
  refine ⟨P, δ, M, _, hS, g, x, w, fun v H1 ⟨d, M1, z1, g1, r1, i, e, q⟩ => ?_⟩
  subst e
  exact ⟨i, r1, k (some i) H1 M1 z1 g1 q⟩
theorem d_sl (he : PD X (bs X CR E W) e w) (hl : PDO X (bs X CR E W) lo l) (hu : PDO X (bs X CR E W) hi u) : PD X (bs X CR E W) (.Subscript e (.Slice lo hi none p2) pos) (dSl w l u) := by
  refine (pe_slice (SlR.or sl_list sl_tupA) he hl hu).imp fun σ H Q h => ?_
  obtain ⟨P, δ, M, Qd, hS, g, x, w, k⟩ := h
  refine ⟨P, δ, M, _, hS, g, x, w, fun v H1 ⟨d, M1, z1, g1, r1, q1⟩ => ?_⟩
  refine ⟨P, δ, M1, _, hS.mono z1, g1, x.trans z1, q1, fun o H2 M2 z2 g2 q2 => ?_⟩
  refine ⟨P, δ, M2, _, (hS.mono z1).mono z2, g2, (x.trans z1).trans z2, q2, fun o2 H3 M3 z3 g3 q3 => ?_⟩
  have r3 := (r1.mono z2).mono z3
  have zz := (z1.trans z2).trans z3
  rcases q3 with ⟨xs, rfl, q⟩ | ⟨p, xs, rfl, em, q⟩ | ⟨xs, rfl, q⟩
  · obtain ⟨a, vs, rfl, f, rs⟩ := r3
    exact .inl ⟨a, vs, rfl, f.sq, fun p hp => k _ _ ((newL g3 hp (rs.cut o o2) q).trans zz)⟩
  · rw [show v = .ref p from r3]
    obtain ⟨vs, e1, rs⟩ := g3.at_ p _ em
    exact .inl ⟨p, vs, rfl, .of e1, fun p hp => k _ _ ((newL g3 hp (rs.cut o o2) q).trans zz)⟩
  · obtain ⟨a, vs, rfl, f, rs⟩ := r3
    refine .inr ⟨a, vs, rfl, f.sq, fun ⟨h1, h2⟩ => ?_, fun _ p hp => k _ _ ((newT g3 hp (rs.cut o o2) q).trans zz)⟩
    have e1 : cutD xs o o2 = xs := by
      unfold cutD
      rw [rs.length, h1, h2, List.drop_zero]
      exact take_all (by rw [rs.length]; omega)
    rw [e1] at q
    exact k _ _ ((LfV.here g3 (show Rep _ _ _ (.tup xs) (.ref a) from ⟨a, vs, rfl, f, rs⟩) q).trans zz)
end
/-! ### is not, of truth values -/
section
variable {X : Cx} {CR : Addr}
theorem op_notBl : OpR X (compareOp .IsNot) (fun x y H Q => ∃ a b, x = .bl a ∧ y = .bl b ∧ Q (.bl (a != b)) H) := by
  intro pins s σ H x y v u Q I rx ry ⟨a, b, h1, h2, q⟩
  subst h1; subst h2
  cases rx
  cases ry
  show wpAny _ _ (do return Value.bool (!(← isSame (.bool a) (.bool b)))) _ _ _
  refine wpAny_bind (wpAny_pure ?_)
  exact wpAny_pure ⟨.bl (a != b), H, I, by cases a <;> cases b <;> rfl, q⟩
def rNotB : D2 := fun a b M Q => ∃ x y, a = .bl x ∧ b = .bl y ∧ Q (.bl (x != y)) M
theorem o_notB : OpR X (compareOp .IsNot) (l2 X.K CR rNotB) := op_notBl.imp fun x y H Q hh => by
  obtain ⟨P, a, b, M, Qd, ra, rb, gd, ⟨p, q, rfl, rfl, r⟩, k⟩ := hh
  exact ⟨p, q, ra, rb, k _ _ (lf_bl gd r)⟩
end
/-! ### enumerate of a list -/
def enumD : Nat → List D → List D
  | _, [] => []
  | n, x :: xs => .tup [.int (n : Int), x] :: enumD (n + 1) xs
theorem enumD_length : ∀ (n : Nat) (xs : List D), (enumD n xs).length = xs.length
  | _, [] => rfl
  | n, x :: xs => by simp [enumD, enumD_length (n + 1) xs]
theorem enumD_get : ∀ {n : Nat} {xs : List D} {i : Nat} {d : D}, (enumD n xs)[i]? = some d → ∃ x, xs[i]? = some x ∧ d = .tup [.int ((n + i : Nat) : Int), x]
  | n, [], i, d, h => by simp [enumD] at h
  | n, x :: xs, 0, d, h => by simp [enumD] at h; exact ⟨x, rfl, h.symm⟩
  | n, x :: xs, i + 1, d, h => by
    simp [enumD] at h
    obtain ⟨y, e, r⟩ := enumD_get h
    exact ⟨y, by simpa using e, by rw [r, show n + 1 + i = n + (i + 1) by omega]⟩
def dEnum (t : DA) : DI := fun δ M R => t δ M fun ds M1 => (∃ xs, ds = [.lst xs] ∧ R (enumD 0 xs) always M1) ∨ ∃ p xs, ds = [.ref p] ∧ M1 p = some (.lst xs) ∧ R (enumD 0 xs) (fun M' => M' p = some (.lst xs)) M1
theorem walkD_enum {O : Own} {H0 M0} {a : Addr} {xs : List D} {chk : Mem → Prop} (fa : ∀ O' H M, Cv O H0 M0 O' H M → Good O' H M → chk M → ∃ vs, SqL O.K H a vs ∧ Reps O' H M xs vs) : WalkD O (Ite O.K a) H0 M0 (enumD 0 xs) chk where
  goes := fun i O' H M hi z g c => by
    rw [enumD_length] at hi
    obtain ⟨vs, h1, h2⟩ := fa O' H M z g c
    have l1 : i < vs.length := by rw [← h2.length]; exact hi
    exact ⟨vs, vs[i], h1, List.getElem?_eq_getElem l1⟩
  stops := fun O' H M z g c => by
    obtain ⟨vs, h1, h2⟩ := fa O' H M z g c
    exact ⟨vs, h1, by rw [enumD_length, h2.length]; exact Nat.le_refl _⟩
  yields := fun i O' H M d v H' hd z g c y => by
    obtain ⟨T, u, rfl, hT, rfl, f1⟩ := y
    obtain ⟨x, hx, rfl⟩ := enumD_get hd
    obtain ⟨vs, h1, h2⟩ := fa O' H M z g c
    obtain ⟨d1, e1, r1⟩ := h2.getV (f1 vs h1)
    rw [hx] at e1; cases e1
    rw [Nat.zero_add]
    exact pair_new g hT (x := .int ((i : Nat) : Int)) (u := .int ((i : Nat) : Int)) rfl r1
section
variable {X : Cx} {CR : Addr} {E : DXS} {W : WX} {pos : Pos}
theorem i_enum {e : Expr} {ta : DA} {p tpos : Pos} {elts : List Expr} {kk : Nat} (hm : X.mg "enumerate" = none) (ha : PDA X (bs X CR E W) [e] ta) (hg : Gl X "enumerate" := by rfl)
    (hs : starEach [e] X.env = [(false, eval e X.env)] := by rfl) :
    PDI X (bs X CR E W) (.Tuple elts kk tpos) (.Call (.Name "enumerate" p) [e] [] pos) (dEnum ta) := by
  refine (pi_enum hg hm ha hs).imp fun σ H R h => ?_
  obtain ⟨P, δ, M, Rd, hS, g, x, w, k⟩ := h
  refine ⟨P, δ, M, _, hS, g, x, w, fun vs H1 ds M1 z1 g1 rs q => ?_⟩
  rcases q with ⟨xs, rfl, q⟩ | ⟨p, xs, rfl, em, q⟩
  · obtain ⟨v, r, rfl, ⟨a, va, rfl, f1, r1⟩, e3⟩ := rs
    rw [show r = [] from e3]
    exact ⟨a, va, rfl, f1.sq, k _ H1 _ _ M1 z1 g1 (walkD_enum (chk := always) fun O' H M z g _ => ⟨va, z.k ▸ (f1.cv z).sq, r1.cv z⟩) q⟩
  · obtain ⟨v, r, rfl, rv, e3⟩ := rs
    rw [show r = [] from e3, show v = .ref p from rv]
    obtain ⟨va, e1, r1⟩ := g1.at_ p _ em
    exact ⟨p, va, rfl, .of e1, k _ H1 _ _ M1 z1 g1 (walkD_enum (chk := fun M' => M' p = some (.lst xs)) fun O' H M z g c => by
      obtain ⟨va, e1, r1⟩ := g.at_ p _ c
      exact ⟨va, .of e1, r1⟩) q⟩
/-! ### + of tuples, one of them empty at times -/
def rCatT : D2 := fun a b M Q => ∃ xs ys, a = .tup xs ∧ b = .tup ys ∧ xs.length + ys.length ≤ sizeLine ∧ Q (.tup (xs ++ ys)) M
theorem o_catT : OpR X (binaryOp .Add) (l2 X.K CR rCatT) := op_catA.imp fun x y H Q hh => by
  obtain ⟨P, a, b, M, Qd, ra, rb, gd, ⟨xs, ys, rfl, rfl, h2, h3⟩, k⟩ := hh
  have ra' := ra
  have rb' := rb
  obtain ⟨p, vs, rfl, f, rs⟩ := ra
  obtain ⟨q, ws, rfl, f2, rs2⟩ := rb
  refine ⟨p, q, vs, ws, rfl, rfl, f.sq, f2.sq, by rw [← rs.length, ← rs2.length]; exact h2, fun e => ?_, fun _ e => ?_, fun _ _ u hu => k _ _ (newT gd hu (rs.append rs2) h3)⟩
  · have e2 := (reps_nil_iff rs).mp e
    subst e2
    exact k _ _ (LfV.here (d := .tup ys) gd rb' h3)
  · have e2 := (reps_nil_iff rs2).mp e
    subst e2
    rw [List.append_nil] at h3
    exact k _ _ (LfV.here (d := .tup xs) gd ra' h3)
end
/-! DLF: enumerate of a tuple; in, not in. -/
open PySem
open PySem.Sem (wp)
theorem enT_meets_newT (l : Addr) (items : Array Value) (n : Nat) (dct : Option Addr) (sl : Array (Option Value)) :
    Meets (Builtin.«enumerate.__new__» ⟨[.type "enumerate", .ref l], []⟩) (fun _ R s => s.heap.get? l = some { cls := .type "tuple", dict := dct, data := .seq items n, slots := sl } ∧
      R (.ok (.ret (.ref (s.heap.push { cls := .type "tuple_iterator", data := .fields #[.ref l, .int 0 0] }).objs.size)))
        { s with heap := (s.heap.push { cls := .type "tuple_iterator", data := .fields #[.ref l, .int 0 0] }).push { cls := .type "enumerate", data := .fields #[.none, .bool false, .ref s.heap.objs.size, rawInt 0, .none, .none] } }) :=
  .of_wp fun prog w A R s h => by
    obtain ⟨hp, g, d, tk, os⟩ := s; obtain ⟨hl, h⟩ := h
    have hsub := sub_enumerate
    have hL : Heap.IsTuple (Shared.heap ⟨hp, g, d, tk, os⟩) l items := ⟨_, hl, rfl, n, rfl⟩
    wp_walk using AutoSeq1.wpAny_loadPart' hl
    refine wpAny_stack_any fun st => wpAny_pure ?_
    split
    · rename_i c _ _ _ _ _
      cases (c == Value.type "enumerate")
      · wp_walk using AutoSeq1.wpAny_loadPart' hl, wpAny_pyIter_tuple hL
        exact ⟨_, rfl, h⟩
      · wp_walk using AutoSeq1.wpAny_loadPart' hl, wpAny_pyIter_tuple hL
        exact ⟨_, rfl, h⟩
    · wp_walk using AutoSeq1.wpAny_loadPart' hl, wpAny_pyIter_tuple hL
      exact ⟨_, rfl, h⟩
section
variable {prog : Program} {w : World} {A : Around} {E : Value → Shared → Prop} {s : Shared}
theorem enT_call_enumT {l : Addr} {items : Array Value} {Q : Value → Shared → Prop} (hL : s.heap.IsTuple l items)
    (h : ∀ h', IsEnum h' (s.heap.objs.size + 1) s.heap.objs.size 0 .none → h'.IsTupleIter s.heap.objs.size l 0 → h'.objs.size = s.heap.objs.size + 2 →
      (∀ b o, s.heap.get? b = some o → h'.get? b = some o) → Q (.ref (s.heap.objs.size + 1)) { s with heap := h' }) :
    wpAny (model prog w) A (call (.type "enumerate") [.ref l]) Q E s := by
  obtain ⟨⟨c, dct, dt, sl⟩, hl, hc, n, hd⟩ := hL
  replace hc : c = .type "tuple" := hc
  replace hd : dt = .seq items n := hd
  subst hc hd
  refine callType_new F.called_enumerate (by decide) (F.typeCall_enumerate_1 _) (F.newCall_enumerate_1 _) (fun obj => F.args_object_init_2 obj _) F.entry_enumerate_new
    (enT_meets_newT l items n dct sl) ⟨hl, ?_⟩
  have hz : (s.heap.push { cls := .type "tuple_iterator", data := .fields #[.ref l, .int 0 0] }).objs.size = s.heap.objs.size + 1 := Heap.size_push ..
  show _ ∧ _
  rw [hz]
  have he : IsEnum ((s.heap.push { cls := .type "tuple_iterator", data := .fields #[.ref l, .int 0 0] }).push
      { cls := .type "enumerate", data := .fields #[.none, .bool false, .ref s.heap.objs.size, rawInt 0, .none, .none] }) (s.heap.objs.size + 1) s.heap.objs.size 0 .none := by
    have := Heap.get?_push_size (s.heap.push { cls := .type "tuple_iterator", data := .fields #[.ref l, .int 0 0] })
      (o := { cls := .type "enumerate", data := .fields #[.none, .bool false, .ref s.heap.objs.size, rawInt 0, .none, .none] }) rfl
    rw [hz] at this; exact this
  refine ⟨⟨_, he, rfl⟩, h _ he ⟨_, Heap.get?_push_of_some _ (Heap.get?_push_size _ rfl), rfl, rfl⟩ (by rw [Heap.size_push, hz]) fun b o x => Heap.get?_push_of_some _ (Heap.get?_push_of_some _ x)⟩
theorem enT_drawsT {it l : Addr} {items : Array Value} (hh : A.handled = none) (hne : l ≠ it) : Draws prog w A it [it, l] items.size (fun i x => items[i]? = some x) (fun i h => h.IsTupleIter it l i ∧ h.IsTuple l items) where
  live := fun i h st => let ⟨o, ho, _⟩ := st.1; ⟨o, ho⟩
  frame := fun i h h' st k => ⟨st.1.at fun o q => k it (by simp) o q, let ⟨o, ho, r⟩ := st.2; ⟨o, k l (by simp) o ho, r⟩⟩
  item := fun i s Q E hi st hQ => by
    refine RZ.nextOf_tuple_item st.1 st.2 (x := items[i]) (Array.getElem?_eq_getElem hi) fun h' hit' sb => ?_
    have := hQ items[i] h' s.toks (Array.getElem?_eq_getElem hi) ⟨hit', let ⟨o, ho, r⟩ := st.2; ⟨o, (sb.2 l hne).trans ho, r⟩⟩ sb
    exact this
  done := fun s Q E st hE => RZ.nextOf_tuple_end hh st.1 st.2 (by simp) fun h' e eb ho => hE h' e eb ho
theorem enT_drawsE {it l : Addr} {items : Array Value} {n : Nat} (hn : items.size ≤ n) (hh : A.handled = none) : Draws prog w A it [it, l] n (fun _ _ => True) (fun i h => h.IsTupleIter it l i ∧ h.IsTuple l items ∧ i = n) where
  live := fun i h st => let ⟨o, ho, _⟩ := st.1; ⟨o, ho⟩
  frame := fun i h h' st k => ⟨st.1.at fun o q => k it (by simp) o q, let ⟨o, ho, r⟩ := st.2.1; ⟨o, k l (by simp) o ho, r⟩, st.2.2⟩
  item := fun i s Q E hi st hQ => absurd st.2.2 (Nat.ne_of_lt hi)
  done := fun s Q E st hE => RZ.nextOf_tuple_end hh st.1 st.2.1 (Array.getElem?_eq_none hn) fun h' e eb ho => hE h' e eb ho
end
/-- the tuple at a, each item in a new pair -/
def IteT (K : PySem.W.Frag) (a : Addr) : It :=
  ⟨fun i H => ∃ (xs : List V) (x : V), SqT K H a xs ∧ xs[i]? = some x, fun i H v H' => ∃ T x, v = .ref T ∧ H T = none ∧ H' = upd H T (.tup [.int (i : Nat), x]) ∧ ∀ xs, SqT K H a xs → xs[i]? = some x, fun i H => ∃ xs : List V, SqT K H a xs ∧ xs.length ≤ i⟩
theorem turn_enumT {P : Program} {w : World} {K : PySem.W.Frag} {elts : List Expr} {kk : Nat} {tpos : Pos} (a e it : Addr) :
    Turn P w K (.Tuple elts kk tpos) (IteT K a) [e, it] e (fun i h => (∃ old, IsEnum h e it ((i : Nat) : Int) old) ∧ h.IsTupleIter it a i ∧ e ≠ it) where
  mem := by simp
  obj := fun i h st b hb => by
    obtain ⟨⟨old, he⟩, ⟨o, ho, hc, hd⟩, _⟩ := st
    have e' : b = e ∨ b = it := by simpa using hb
    rcases e' with z | z
    · rw [z]; exact ⟨_, he, fun v q => nomatch q⟩
    · rw [z]; exact ⟨o, ho, fun v q => by rw [hd] at q; cases q⟩
  keep := fun i h h' st k => let ⟨⟨old, he⟩, hi, hne⟩ := st; ⟨⟨old, k e (by simp) _ he⟩, hi.at fun o q => k it (by simp) o q, hne⟩
  item := by
    intro X hP hw hK hc i pins s σ H E I hf st hg
    subst hP hw hK
    obtain ⟨⟨old, he⟩, hit, hne⟩ := st
    obtain ⟨xs, x, hq, hx⟩ := hg
    obtain ⟨its, rv, p, hz⟩ := I.tuple hq
    obtain ⟨u, hu, ru⟩ := rv.get hx
    have hel : e < s.heap.objs.size := Heap.lt_size he
    have hil : it < s.heap.objs.size := by obtain ⟨_, q, _⟩ := hit; exact Heap.lt_size q
    have hai : a ≠ it := fun z => by
      obtain ⟨o1, q1, c1, _⟩ := show s.heap.IsTuple a its.toArray from p
      obtain ⟨o2, q2, c2, _⟩ := hit
      rw [z, q2] at q1; cases q1
      rw [c1] at c2
      injection c2 with c2
      exact absurd c2 (by decide)
    have hea : e ∉ [it, a] := fun m => by
      have m' : e = it ∨ e = a := by simpa using m
      rcases m' with m | m
      · exact hne m
      · obtain ⟨o1, q1, c1, _⟩ := show s.heap.IsTuple a its.toArray from p
        have he' : s.heap.get? e = _ := he
        rw [m, q1] at he'; cases he'
        injection c1 with c1
        exact absurd c1 (by decide)
    have hlt : i < its.toArray.size := by
      have := (List.getElem?_eq_some_iff.mp hu).1
      simpa using this
    refine wpAny_pyNext_enum_itemD (P := fun i x => its.toArray[i]? = some x) (enT_drawsT (A := X.A.in1) (I.ok.hd hc) hai) he ⟨hit, p⟩ hlt hne hea fun x0 h' tk hP ho hst hT hsz hk => ?_
    have hx0 : x0 = u := by
      have e1 : its[i]? = some x0 := by simpa using hP
      rw [hu] at e1; cases e1; rfl
    subst hx0
    refine ⟨_, rfl, wpAny_letOwnedTupleGo_enum (s := { s with heap := h', toks := tk + 1 }) ho fun h'' he' sb => ?_⟩
    have hT2 : h''.get? s.heap.objs.size = some { cls := .type "tuple", data := .seq #[.int i tk, x0] } := (sb.2 _ (Nat.ne_of_gt hel)).trans hT
    have new : ObjOk X.prog X.w (upd H s.heap.objs.size (.tup [.int (i : Nat), x])) h'' s.heap.objs.size (.tup [.int (i : Nat), x]) :=
      ⟨by show 2 ≤ sizeLine; decide, [.int i tk, x0], .cons ⟨_, rfl⟩ (.cons ru .nil), ⟨_, hT2, rfl, _, rfl⟩⟩
    have I1 : Inv X pins σ (upd H s.heap.objs.size (.tup [.int (i : Nat), x])) { s with heap := h'', toks := tk + 1 } :=
      I.turnedNew (ch := [e, it]) (fun b ob hb q => (sb.2 b (fun z => hb (by simp [z]))).trans (hk b ob (fun z => hb (by simp [z])) (fun z => hb (by simp [z])) q)) hf (Nat.le_refl _) new
    refine ⟨.ref s.heap.objs.size, _, I1, rfl, ⟨_, x, rfl, I.hok.fresh (Nat.le_refl _), rfl, fun ys hy => by rw [I.tuple_inj hy hq]; exact hx⟩, ⟨⟨x0, ?_⟩, hst.1.at fun o q => (sb.2 it (Ne.symm hne)).trans q, hne⟩, fun b hb => ?_⟩
    · have e1 : ((i + 1 : Nat) : Int) = (i : Int) + 1 := by omega
      rw [e1]; exact he'
    · have hb' : b < s.heap.objs.size := by
        have e' : b = e ∨ b = it := by simpa using hb
        rcases e' with z | z
        · rw [z]; exact hel
        · rw [z]; exact hil
      rw [upd_ne (Nat.ne_of_lt hb')]
      exact (hf b hb).1
  done := by
    intro X hP hw hK hc i pins s σ H E I hf st hg
    subst hP hw hK
    obtain ⟨⟨old, he⟩, hit, hne⟩ := st
    obtain ⟨xs, hq, hx⟩ := hg
    obtain ⟨its, rv, p, hz⟩ := I.tuple hq
    obtain ⟨f0, f1, f2, f3, f4, f5⟩ := hf it (by simp)
    have hl := rv.length
    exact wpAny_pyNext_enum_endD (enT_drawsE (A := X.A.in1) (n := i) (items := its.toArray) (by simp; omega) (I.ok.hd hc)) he ⟨hit, p, rfl⟩ fun h' eb => ⟨rfl, I.turned (t' := s.toks) (fun b o hb q => eb b o hb q) f0 f1 f3 f4 f5⟩
  self := fun A i s Q E st h => let ⟨⟨_, he⟩, _⟩ := st; wpAny_pyIter_enum he h
def iEnumA (K : PySem.W.Frag) (ta : TA) : TI := fun σ H R => ta σ H fun vs H1 => ∃ a xs, vs = [.ref a] ∧ ((SqL K H1 a xs ∧ R (Ite K a) H1) ∨ (SqT K H1 a xs ∧ R (IteT K a) H1))
theorem pi_enumA {X : Cx} {e : Expr} {ta : TA} {p pos tpos : Pos} {elts : List Expr} {kk : Nat} (hg : Gl X "enumerate") (hm : X.mg "enumerate" = none) (ha : PA X [e] ta) (hs : starEach [e] X.env = [(false, eval e X.env)] := by rfl) :
    PI X (.Tuple elts kk tpos) (.Call (.Name "enumerate" p) [e] [] pos) (iEnumA X.K ta) := by
  refine ⟨fun pins s σ H R I h => ?_⟩
  refine Call_ (ld_blt I hg hm boot_enumerate (PyProof.Rows.callWith_type1 (thn (ha.run pos pins s σ H _ I h) fun us s1 ⟨vs, H1, I1, r1, q1⟩ => ?_) hs rfl))
  obtain ⟨a, xs, ex, q⟩ := q1
  subst ex
  cases r1 with
  | cons r rr =>
    cases rr
    cases r
    have fresh2 : ∀ b, b ∈ [s1.heap.objs.size + 1, s1.heap.objs.size] → FpOk X pins H1 b := fun b hb => by
      have e' : b = s1.heap.objs.size + 1 ∨ b = s1.heap.objs.size := by simpa using hb
      have hle : s1.heap.objs.size ≤ b := by
        rcases e' with z | z
        · rw [z]; exact Nat.le_add_right _ _
        · rw [z]; exact Nat.le_refl _
      exact I1.fpOk hle (I1.hok.fresh hle)
    rcases q with ⟨hq, q⟩ | ⟨hq, q⟩
    · obtain ⟨its, rv, p', hz⟩ := I1.list hq
      refine call_enumerate_list p'.isList fun h' he hit hsz hk => wpAny_pyIter_enum he ?_
      have I2 : Inv X pins σ H1 { s1 with heap := h' } := I1.kept (t' := s1.toks) hk
      exact ⟨s1.heap.objs.size + 1, [s1.heap.objs.size + 1, s1.heap.objs.size], _, _, H1, rfl, I2, turn_enum a (s1.heap.objs.size + 1) s1.heap.objs.size, ⟨⟨.none, he⟩, hit, Nat.succ_ne_self _⟩, fresh2, q⟩
    · obtain ⟨its, rv, p', hz⟩ := I1.tuple hq
      refine enT_call_enumT (show s1.heap.IsTuple a its.toArray from p') fun h' he hit hsz hk => wpAny_pyIter_enum he ?_
      have I2 : Inv X pins σ H1 { s1 with heap := h' } := I1.kept (t' := s1.toks) hk
      exact ⟨s1.heap.objs.size + 1, [s1.heap.objs.size + 1, s1.heap.objs.size], _, _, H1, rfl, I2, turn_enumT a (s1.heap.objs.size + 1) s1.heap.objs.size, ⟨⟨.none, he⟩, hit, Nat.succ_ne_self _⟩, fresh2, q⟩
def dEnumA (t : DA) : DI := fun δ M R => t δ M fun ds M1 => (∃ xs, (ds = [.lst xs] ∨ ds = [.tup xs]) ∧ R (enumD 0 xs) always M1) ∨ ∃ p xs, ds = [.ref p] ∧ M1 p = some (.lst xs) ∧ R (enumD 0 xs) (fun M' => M' p = some (.lst xs)) M1
theorem walkD_enumT {O : Own} {H0 M0} {a : Addr} {xs : List D} (fa : ∀ O' H M, Cv O H0 M0 O' H M → Good O' H M → ∃ vs, SqT O.K H a vs ∧ Reps O' H M xs vs) : WalkD O (IteT O.K a) H0 M0 (enumD 0 xs) always where
  goes := fun i O' H M hi z g c => by
    rw [enumD_length] at hi
    obtain ⟨vs, h1, h2⟩ := fa O' H M z g
    have l1 : i < vs.length := by rw [← h2.length]; exact hi
    exact ⟨vs, vs[i], h1, List.getElem?_eq_getElem l1⟩
  stops := fun O' H M z g c => by
    obtain ⟨vs, h1, h2⟩ := fa O' H M z g
    exact ⟨vs, h1, by rw [enumD_length, h2.length]; exact Nat.le_refl _⟩
  yields := fun i O' H M d v H' hd z g c y => by
    obtain ⟨T, u, rfl, hT, rfl, f1⟩ := y
    obtain ⟨x, hx, rfl⟩ := enumD_get hd
    obtain ⟨vs, h1, h2⟩ := fa O' H M z g
    obtain ⟨d1, e1, r1⟩ := h2.getV (f1 vs h1)
    rw [hx] at e1; cases e1
    rw [Nat.zero_add]
    exact pair_new g hT (x := .int ((i : Nat) : Int)) (u := .int ((i : Nat) : Int)) rfl r1
section
variable {X : Cx} {CR : Addr} {E : DXS} {W : WX} {pos : Pos}
theorem i_enumA {e : Expr} {ta : DA} {p tpos : Pos} {elts : List Expr} {kk : Nat} (hm : X.mg "enumerate" = none) (ha : PDA X (bs X CR E W) [e] ta) (hg : Gl X "enumerate" := by rfl)
    (hs : starEach [e] X.env = [(false, eval e X.env)] := by rfl) :
    PDI X (bs X CR E W) (.Tuple elts kk tpos) (.Call (.Name "enumerate" p) [e] [] pos) (dEnumA ta) := by
  refine (pi_enumA hg hm ha hs).imp fun σ H R h => ?_
  obtain ⟨P, δ, M, Rd, hS, g, x, w, k⟩ := h
  refine ⟨P, δ, M, _, hS, g, x, w, fun vs H1 ds M1 z1 g1 rs q => ?_⟩
  rcases q with ⟨xs, rfl | rfl, q⟩ | ⟨p, xs, rfl, em, q⟩
  · obtain ⟨v, r, rfl, ⟨a, va, rfl, f1, r1⟩, e3⟩ := rs
    rw [show r = [] from e3]
    exact ⟨a, va, rfl, .inl ⟨f1.sq, k _ H1 _ _ M1 z1 g1 (walkD_enum (chk := always) fun O' H M z g _ => ⟨va, z.k ▸ (f1.cv z).sq, r1.cv z⟩) q⟩⟩
  · obtain ⟨v, r, rfl, ⟨a, va, rfl, f1, r1⟩, e3⟩ := rs
    rw [show r = [] from e3]
    exact ⟨a, va, rfl, .inr ⟨f1.sq, k _ H1 _ _ M1 z1 g1 (walkD_enumT fun O' H M z g => ⟨va, z.k ▸ (f1.cv z).sq, r1.cv z⟩) q⟩⟩
  · obtain ⟨v, r, rfl, rv, e3⟩ := rs
    rw [show r = [] from e3, show v = .ref p from rv]
    obtain ⟨va, e1, r1⟩ := g1.at_ p _ em
    exact ⟨p, va, rfl, .inl ⟨.of e1, k _ H1 _ _ M1 z1 g1 (walkD_enum (chk := fun M' => M' p = some (.lst xs)) fun O' H M z g c => by
      obtain ⟨va, e1, r1⟩ := g.at_ p _ c
      exact ⟨va, .of e1, r1⟩) q⟩⟩
end
/-! ### in, not in: a number in a tuple, a list of numbers -/
def intsOf : List D → Option (List Int)
  | [] => some []
  | .int i :: ds => (intsOf ds).map (i :: ·)
  | _ :: _ => none
def rInQ (neg : Bool) : D2 := fun a b M Q => ∃ (i : Int) (ds : List D) (ns : List Int), a = .int i ∧ (b = .tup ds ∨ b = .lst ds) ∧ intsOf ds = some ns ∧ Q (.bl (if neg then !decide (i ∈ ns) else decide (i ∈ ns))) M
theorem ints_reps {O : Own} {H : Hp} {M : Mem} : ∀ {ds : List D} {ns : List Int} {vs : List V}, intsOf ds = some ns → Reps O H M ds vs → vs = ns.map V.int
  | [], ns, vs, h, r => by
    rw [show vs = [] from r]
    cases h; rfl
  | d :: ds, ns, vs, h, r => by
    obtain ⟨v, us, rfl, r1, r2⟩ := r
    cases d with
    | int i =>
      unfold intsOf at h
      cases e : intsOf ds with
      | none => rw [e] at h; cases h
      | some ms =>
        rw [e] at h; cases h
        rw [show v = .int i from r1, ints_reps e r2]; rfl
    | _ => cases h
theorem inV_int (i : Int) : ∀ ns : List Int, (ns.map V.int).all flatV = true ∧ inV (.int i) (ns.map V.int) = decide (i ∈ ns)
  | [] => ⟨rfl, (decide_eq_false (List.not_mem_nil)).symm⟩
  | n :: ns => by
    obtain ⟨h1, h2⟩ := inV_int i ns
    refine ⟨by rw [List.map_cons, List.all_cons, h1]; rfl, ?_⟩
    unfold inV at h2 ⊢
    rw [List.map_cons, List.any_cons, h2]
    show ((n == i) || decide (i ∈ ns)) = decide (i ∈ n :: ns)
    by_cases e : i = n
    · subst e
      rw [decide_eq_true (List.mem_cons_self), show (i == i) = true from beq_self_eq_true i]; rfl
    · have e1 : (n == i) = false := by
        cases h : n == i with
        | true => exact absurd (eq_of_beq h).symm e
        | false => rfl
      rw [e1, Bool.false_or]
      by_cases m : i ∈ ns
      · rw [decide_eq_true m, decide_eq_true (List.mem_cons_of_mem _ m)]
      · rw [decide_eq_false m, decide_eq_false fun z => (List.mem_cons.mp z).elim e m]
section
variable {X : Cx} {CR : Addr}
theorem o_inQ : OpR X (compareOp .In) (l2 X.K CR (rInQ false)) := op_in_seq.imp fun x y H Q hh => by
  obtain ⟨P, a, b, M, Qd, ra, rb, gd, ⟨i, ds, ns, rfl, hb, hn, q⟩, k⟩ := hh
  rw [show x = .int i from ra]
  obtain ⟨h1, h2⟩ := inV_int i ns
  rcases hb with rfl | rfl
  · obtain ⟨p, vs, rfl, f, rs⟩ := rb
    rw [ints_reps hn rs] at f
    exact ⟨p, _, rfl, .inr f.sq, rfl, h1, by rw [h2]; exact k _ _ (lf_bl gd q)⟩
  · obtain ⟨p, vs, rfl, f, rs⟩ := rb
    rw [ints_reps hn rs] at f
    exact ⟨p, _, rfl, .inl f.sq, rfl, h1, by rw [h2]; exact k _ _ (lf_bl gd q)⟩
theorem o_notInQ : OpR X (compareOp .NotIn) (l2 X.K CR (rInQ true)) := op_notIn_seq.imp fun x y H Q hh => by
  obtain ⟨P, a, b, M, Qd, ra, rb, gd, ⟨i, ds, ns, rfl, hb, hn, q⟩, k⟩ := hh
  rw [show x = .int i from ra]
  obtain ⟨h1, h2⟩ := inV_int i ns
  rcases hb with rfl | rfl
  · obtain ⟨p, vs, rfl, f, rs⟩ := rb
    rw [ints_reps hn rs] at f
    exact ⟨p, _, rfl, .inr f.sq, rfl, h1, by rw [h2]; exact k _ _ (lf_bl gd q)⟩
  · obtain ⟨p, vs, rfl, f, rs⟩ := rb
    rw [ints_reps hn rs] at f
    exact ⟨p, _, rfl, .inl f.sq, rfl, h1, by rw [h2]; exact k _ _ (lf_bl gd q)⟩
end
/-! DLG: names from a list. -/
open PySem
open PySem.Sem (wp)
section
variable {prog : Program} {w : World} {A : Around} {E : Value → Shared → Prop} {s : Shared}
theorem unL_draw {it t : Addr} {items : Array Value} (hne : t ≠ it) : ∀ (n i : Nat) (s : Shared) (Q : List Value → Shared → Prop), s.heap.IsListIter it t i → s.heap.IsList t items → i + n ≤ items.size →
    (∀ h', h'.IsListIter it t (i + n) → Heap.SameBut it s.heap h' → Q ((items.toList.drop i).take n) { s with heap := h' }) → wpAny (model prog w) A (draw (.ref it) n) Q E s
  | 0, i, s, Q, hit, _, _, hQ => by
    show wpAny _ _ (pure []) Q E s
    exact wpAny_pure (by simpa using hQ s.heap hit (Heap.SameBut.refl ..))
  | n + 1, i, s, Q, hit, ht, hle, hQ => by
    have hlt : i < items.size := by omega
    show wpAny _ _ (pyNext (.ref it) >>= _) Q E s
    refine wpAny_bind (wpAny_pyNext_list_item hit ht (x := items[i]) (by simp [hlt]) fun h₁ hit₁ hs₁ => ?_)
    refine wpAny_bind (wpAny_holding (unL_draw hne n (i + 1) _ _ hit₁ (ht.extBut hs₁.extBut hne) (by omega) fun h₂ hit₂ hs₂ => wpAny_pure ?_))
    have hd : items.toList.drop i = items[i] :: items.toList.drop (i + 1) := by simp [List.drop_eq_getElem_cons, hlt]
    have := hQ h₂ (by rw [show i + (n + 1) = i + 1 + n by omega]; exact hit₂) (hs₁.trans hs₂)
    rw [hd, List.take_succ_cons] at this
    exact this
theorem unL_items {t : Addr} {items : Array Value} {Q : List Value → Shared → Prop} (hh : A.handled = none) (ht : s.heap.IsList t items)
    (hQ : ∀ h', Heap.ExtBut s.heap.objs.size s.heap h' → Q items.toList { s with heap := h' }) : wpAny (model prog w) A (unpackItems (.ref t) items.size none) Q E s := by
  have hlt : t ≠ s.heap.objs.size := by obtain ⟨o, ho, _⟩ := ht; exact Nat.ne_of_lt (Heap.lt_size ho)
  unfold unpackItems
  refine wpAny_bind ?_
  · unfold notIterableAtAll
    refine wpAny_bind (wpAny_specialOf ht.typeIs slot_list_iter.lookup ?_)
    refine wpAny_pure ?_
    simp only [Bool.false_eq_true, if_false]
    refine wpAny_bind (wpAny_holding (wpAny_pyIter_list ht ?_))
    refine wpAny_bind (wpAny_holding (unL_draw hlt items.size 0 _ _ ⟨_, Heap.get?_push_size _ rfl, rfl, rfl⟩ (ht.push _) (by omega) fun h₁ hit₁ hs₁ => ?_))
    have hall : List.take items.size (List.drop 0 items.toList) = items.toList := by
      rw [List.drop_zero]; exact List.take_of_length_le (by simp)
    rw [hall]
    rw [if_neg (by simp)]
    have ht₁ : h₁.IsList t items := (ht.push _).extBut hs₁.extBut hlt
    refine wpAny_bind (wpAny_holding (wpAny_pyNext_list_end hh hit₁ ht₁ (by simp) fun h₂ he₂ => ?_))
    simp only [Option.isSome_none, Bool.false_eq_true, if_false]
    refine wpAny_pure (hQ h₂ fun b o hb e => he₂ b o hb (hs₁.extBut b o hb (Heap.get?_push_of_some _ e)))
theorem unL_assign {env : Env} {elts : List Expr} {x1} {pos : Pos} {t : Addr} {items : Array Value} {Q : Unit → Shared → Prop} (hh : A.handled = none) (ht : s.heap.IsList t items)
    (hn : (assignEach elts env).length = items.size) (hstar : (assignEach elts env).findIdx? (·.1) = none)
    (h : ∀ h', Heap.ExtBut s.heap.objs.size s.heap h' → wpAny (model prog w) A (assignInOrder ((assignEach elts env).map (·.2)) items.toList) Q E { s with heap := h' }) :
    wpAny (model prog w) A (assign (.Tuple elts x1 pos) env (.ref t)) Q E s := by
  rw [PyProof.Rows.assign_Tuple]
  refine wpAny_bind (wpAny_standAt ?_)
  unfold unpack
  rw [hn, hstar]
  exact wpAny_bind (wpAny_holding (unL_items hh ht h))
end
section
variable {X : Cx} {CR : Addr} {E : DXS} {W : WX} {pos : Pos}
def gTupL (K : PySem.W.Frag) (n : Nat) (t : TGs) : TG := fun v σ H Q => ∃ a xs, v = .ref a ∧ SqL K H a xs ∧ xs.length = n ∧ t xs σ H Q
theorem pg_tupL {es : List Expr} {k : Nat} {t : TGs} {n : Nat} (hc : X.calm = true) (h : PGs X es t)
    (hn : (assignEach es X.env).length = n := by rfl) (hst : (assignEach es X.env).findIdx? (·.1) = none := by rfl) : PG X (.Tuple es k pos) (gTupL X.K n t) := by
  refine ⟨fun pins s σ H v u Q I r hw => ?_⟩
  obtain ⟨a, xs, e1, hq, hl, hw⟩ := hw
  subst e1
  cases r
  obtain ⟨its, rv, ht, hz⟩ := I.list hq
  refine unL_assign (I.ok.hd hc) ht.isList (by simp [hn, ← hl, rv.length]) hst fun h' hx => ?_
  have I1 : Inv X pins σ H { s with heap := h' } := I.kept (t' := s.toks) fun b o e => hx b o (Nat.ne_of_lt (Heap.lt_size e)) e
  exact h.run pins _ σ H xs _ Q I1 (by simpa using rv) hw
def gTuL (n : Nat) (t : DGs) : DG := fun d δ M Q => ∃ xs, d = .lst xs ∧ xs.length = n ∧ t xs δ M Q
theorem g_tuL {es : List Expr} {k : Nat} {t : DGs} {n : Nat} (hc : X.calm = true) (h : PDGs X (bs X CR E W) es t)
    (hn : (assignEach es X.env).length = n := by rfl) (hst : (assignEach es X.env).findIdx? (·.1) = none := by rfl) : PDG X (bs X CR E W) (.Tuple es k pos) (gTuL n t) := by
  refine (pg_tupL hc h hn hst).imp fun v σ H Q h => ?_
  obtain ⟨P, d, δ, M, Qd, r, hS, g, x, ⟨xs, e, hl, q⟩, k⟩ := h
  subst e
  obtain ⟨a, vs, rfl, f, rs⟩ := r
  exact ⟨a, vs, rfl, f.sq, by rw [← rs.length]; exact hl, P, xs, δ, M, Qd, rs, hS, g, x, q, k⟩
end
open PySem PySem.SeqAt
open MeetsSeq MeetsSeq2 MeetsSeq3 SeqRoads2
/-! ### list.remove with any == -/
section
variable {prog : Program} {w : World} {A : Around} {R : Result → Shared → Prop}
theorem remove_loopG (l : Addr) (x : Value) (N : Nat) (c : Nat → Bool) (I : Nat → Shared → Prop) (j : Nat)
    (at_ : ∀ i s, I i s → ∃ (items : Array Value) (n : Nat), s.heap.get? l = some { cls := .type "list", dict := none, data := .seq items n, slots := #[] } ∧ items.size = N ∧
      ∀ (h : i < items.size), i ≤ j → wpAny (model prog w) A.in1 (eqBool items[i] x) (fun r s' => r = c i ∧ I (i + 1) s') (fun e s' => R (.error e) s') s)
    (hj : j < N) (hit : c j = true) (hno : ∀ i, i < j → c i = false) (hs1 : N ≤ sizeLine)
    (fin : ∀ s, I (j + 1) s → R (.ok (.ret .none)) { s with heap := s.heap.update l (Obj.mapSeq fun xs => xs.eraseIdxIfInBounds j) }) (k : Nat) :
    ∀ i : Nat, j - i = k → i ≤ j → ∀ s, I i s → wpAny (model prog w) A.in1 (Builtin.«list.remove.loop» ⟨[.ref l, x, rawInt i], []⟩) (GQ.FinOf prog w A R) (fun e s' => R (.error e) s') s := by
  induction k with
  | zero =>
    intro i hk hij s h
    obtain ⟨items, n, hl, hN, turn⟩ := at_ i s h
    have hij' : i = j := by omega
    subst hij'
    obtain ⟨hp, g, d, tk, os⟩ := s
    wp_walk using AutoSeq1.wpAny_loadPart' hl
    have hi : items[((i : Nat) : Int).toNat]? = some items[i] := by simp [hN, hj]
    rw [hi]
    refine wpAny_bind (wpAny_mono (turn (by omega) (by omega)) (fun r s2 q => ?_) fun _ _ z => z)
    obtain ⟨hr, hI2⟩ := q
    rw [hr, hit]
    obtain ⟨items2, n2, hl2, hN2, _⟩ := at_ _ _ hI2
    have q := fin s2 hI2
    obtain ⟨hp2, g2, d2, tk2, os2⟩ := s2
    have hz : items2.size ≤ sizeLine := by omega
    have hz' : (items2.eraseIdxIfInBounds i).size ≤ sizeLine + 1 := Nat.le_trans (size_erased items2 _) (Nat.le_succ_of_le hz)
    wp_walk using (wpAny_updateSeq hl2 rfl (hz := hz) (_hz' := hz')), AutoSeq1.wpAny_loadPart' hl2
    simpa using q
  | succ k ih =>
    intro i hk hij s h
    obtain ⟨items, n, hl, hN, turn⟩ := at_ i s h
    obtain ⟨hp, g, d, tk, os⟩ := s
    have hlt : i < items.size := by omega
    wp_walk using AutoSeq1.wpAny_loadPart' hl
    have hi : items[((i : Nat) : Int).toNat]? = some items[i] := by simp [hlt]
    have hc : ((i : Int) + 1) = ((i + 1 : Nat) : Int) := by push_cast; rfl
    rw [hi]
    refine wpAny_bind (wpAny_mono (turn hlt (by omega)) (fun r s2 q => ?_) fun _ _ z => z)
    obtain ⟨hr, hI2⟩ := q
    rw [hr, hno i (by omega)]
    wp_walk
    rw [hc]
    exact ⟨plainId_quiet plain_remove_loop _, codeAny_builtin entry_remove_loop (by
      rw [Around.under_plainId plain_remove_loop _]
      exact ih (i + 1) (by omega) (by omega) _ hI2)⟩
theorem removeG (l : Addr) (x : Value) (N : Nat) (c : Nat → Bool) (I : Nat → Shared → Prop) (j : Nat)
    (at_ : ∀ i s, I i s → ∃ (items : Array Value) (n : Nat), s.heap.get? l = some { cls := .type "list", dict := none, data := .seq items n, slots := #[] } ∧ items.size = N ∧
      ∀ (h : i < items.size), i ≤ j → wpAny (model prog w) A.in1 (eqBool items[i] x) (fun r s' => r = c i ∧ I (i + 1) s') (fun e s' => R (.error e) s') s)
    (hj : j < N) (hit : c j = true) (hno : ∀ i, i < j → c i = false) (hs1 : N ≤ sizeLine)
    (fin : ∀ s, I (j + 1) s → R (.ok (.ret .none)) { s with heap := s.heap.update l (Obj.mapSeq fun xs => xs.eraseIdxIfInBounds j) }) {s : Shared} (h : I 0 s) :
    wpAny (model prog w) A.in1 (Builtin.«list.remove» ⟨[.ref l, x], []⟩) (GQ.FinOf prog w A R) (fun e s' => R (.error e) s') s := by
  obtain ⟨items, n, hl, hN, turn⟩ := at_ 0 s h
  have h0 := h
  obtain ⟨hp, g, d, tk, os⟩ := s
  wp_walk using AutoSeq1.wpAny_loadPart' hl
  exact ⟨plainId_quiet plain_remove_loop _, codeAny_builtin entry_remove_loop (by
    rw [Around.under_plainId plain_remove_loop _]
    exact remove_loopG l x N c I j at_ hj hit hno hs1 fin _ 0 rfl (Nat.zero_le _) _ h0)⟩
end
section
open PySem.Spec PyProof.Rows L2
variable {X : Cx} {CR : Addr} {E : DXS} {W : WX}
/-- the first that is equal stands at j -/
structure RemAt (f : Ans) (xs : List D) (y : D) (j : Nat) : Prop where
  lt : j < xs.length
  no : ∀ i d, i < j → xs[i]? = some d → f d y = some false
  yes : ∀ d, xs[j]? = some d → f d y = some true
def rRemV (K : PySem.W.Frag) (CR : Addr) (f : Ans) : V → List V → Hp → VK → Prop := fun x vs H Q => ∃ (P : Addr → Prop) (p : Addr) (xs : List D) (y : D) (M : Mem) (Qd : DK) (j : Nat) (v : V),
  x = .ref p ∧ vs = [v] ∧ M p = some (.lst xs) ∧ Good ⟨K, CR, P⟩ H M ∧ Rep ⟨K, CR, P⟩ H M y v ∧ RemAt f xs y j ∧ Qd .non (mput M p (.lst (xs.eraseIdx j))) ∧ ∀ v H', LfV ⟨K, CR, P⟩ H M Qd v H' → Q v H'
theorem reps_erase {O : Own} {H M} : ∀ {ds : List D} {vs : List V} (j : Nat), Reps O H M ds vs → Reps O H M (ds.eraseIdx j) (vs.eraseIdx j)
  | [], vs, j, h => by rw [show vs = [] from h]; exact rfl
  | d :: ds, vs, 0, h => by
    obtain ⟨v, r, rfl, h1, h2⟩ := h
    exact h2
  | d :: ds, vs, j + 1, h => by
    obtain ⟨v, r, rfl, h1, h2⟩ := h
    exact ⟨v, _, rfl, h1, reps_erase j h2⟩
theorem mt_remT {k : Nat} {f : Ans} (hf : EqOk X CR k f) (hr : Room (k + 1) X.A) : MtM X "list.remove" (rRemV X.K CR f) := by
  intro pins s σ H x vs v us Q I rx rv h
  obtain ⟨P, p, xs, y, M, Qd, j, vy, rfl, rfl, em, g, ry, hRem, q, kk⟩ := h
  obtain rfl : v = Value.ref p := rx
  obtain ⟨u, rfl, ru⟩ := rv.one
  obtain ⟨vs0, eh0, rs0⟩ := g.at_ p _ em
  obtain ⟨z0, its0, n0, r0, hl0, e0⟩ := I.lstM eh0
  have sb : Sub X (k + 1) X.A := ⟨hr, rfl⟩
  refine GQ.call_here PySem.F.slot_list_remove ⟨_, e0, rfl⟩ PySem.F.entry_list_remove (PySem.F.args_list_remove_2 _ _) ?_
  refine removeG p u xs.length (fun i => decide (i = j)) (fun i s' => i ≤ j + 1 ∧ ∃ H', Inv X pins σ H' s' ∧ Fz ⟨X.K, CR, P⟩ H M H' M ∧ Good ⟨X.K, CR, P⟩ H' M) j (fun i s' h => ?_) hRem.lt (decide_eq_true rfl) (fun i hi => decide_eq_false (by omega)) (by rw [rs0.length]; exact z0) (fun s' h => ?_) ⟨Nat.zero_le _, H, I, Fz.refl, g⟩
  · obtain ⟨hij, H', I', z', g'⟩ := h
    obtain ⟨vs1, eh1, rs1⟩ := g'.at_ p _ em
    obtain ⟨z1, its1, n1, r1, hl1, e1⟩ := I'.lstM eh1
    have len1 : its1.length = xs.length := by rw [← hl1, rs1.length]
    refine ⟨its1.toArray, n1, e1, by rw [List.size_toArray]; exact len1, fun hi hj1 => ?_⟩
    have hix : i < xs.length := by rw [List.size_toArray] at hi; omega
    obtain ⟨w, ew, rw'⟩ := rs1.get (List.getElem?_eq_getElem hix)
    obtain ⟨t, et, rt⟩ := r1.get ew
    have ai : its1.toArray[i] = t := by
      have : its1[i]? = some t := et
      rw [List.getElem?_eq_getElem (by omega)] at this
      simpa using Option.some.inj this
    rw [ai]
    have ha : f xs[i] y = some (decide (i = j)) := by
      by_cases e : i = j
      · rw [decide_eq_true e]; exact hRem.yes _ (e ▸ List.getElem?_eq_getElem hix)
      · rw [decide_eq_false e]; exact hRem.no i _ (by omega) (List.getElem?_eq_getElem hix)
    refine wpAny_mono (hf X.A.in1 pins s' σ H' P M _ _ w vy t u _ sb.in1 I' rt ru g' rw' (ry.mono z') ha) (fun r s2 q2 => ?_) fun _ _ z => z
    obtain ⟨hr2, H2, I2, z2, g2⟩ := q2
    exact ⟨hr2, by omega, H2, I2, z'.trans z2, g2⟩
  · obtain ⟨hij, H', I', z', g'⟩ := h
    obtain ⟨vs1, eh1, rs1⟩ := g'.at_ p _ em
    obtain ⟨z1, its1, n1, r1, hl1, e1⟩ := I'.lstM eh1
    have z3 : Fz ⟨X.K, CR, P⟩ H' M (upd H' p (.lst (vs1.eraseIdx j))) (mput M p (.lst (xs.eraseIdx j))) := fz_put g' em
    refine ⟨.non, _, I'.lset (its' := its1.eraseIdx j) (f := fun a => a.eraseIdxIfInBounds j) eh1 e1 ?_ (r1.eraseIdx j) ?_, rfl, kk _ _ ⟨.non, _, z'.trans z3, good_put g' (g'.noP em) z3 (show RepO _ _ _ p (.lst _) from ⟨_, upd_same, (reps_erase j rs1).mono z3⟩), rfl, q⟩⟩
    · show its1.toArray.eraseIdxIfInBounds j = (its1.eraseIdx j).toArray
      rw [List.eraseIdxIfInBounds_toArray]
    · have := len_erase vs1 j
      omega
def rRemD (f : Ans) : D → List D → Mem → DK → Prop := fun o ds M Q => ∃ p xs y j, o = .ref p ∧ ds = [y] ∧ M p = some (.lst xs) ∧ RemAt f xs y j ∧ Q .non (mput M p (.lst (xs.eraseIdx j)))
def dRem (f : Ans) (w : DE) (t : DA) : DE := fun δ M Q => w δ M fun o M1 => isLstD o M1 ∧ t δ M1 fun ds M2 => rRemD f o ds M2 Q
theorem d_rem {f : Ans} {e : Expr} {w : DE} {t : DA} (h : PE X e (tBM X.K "list" (rRemV X.K CR f) (lE (bs X CR E W) w) (lA (bs X CR E W) t))) : PD X (bs X CR E W) e (dRem f w t) := by
  refine h.imp fun σ H Q h => ?_
  obtain ⟨P, δ, M, Qd, hS, g, x, w, k⟩ := h
  refine ⟨P, δ, M, _, hS, g, x, w, fun v H1 ⟨d, M1, z1, g1, r1, ⟨p, xs, ed, em⟩, q⟩ => ?_⟩
  subst ed
  obtain ⟨vs, eh, rs⟩ := g1.at_ p _ em
  rw [show v = .ref p from r1]
  refine ⟨.inl ⟨rfl, vs, .of eh⟩, P, δ, M1, _, hS.mono z1, g1, x.trans z1, q, fun us H2 ds M2 z2 g2 rs2 q2 => ?_⟩
  obtain ⟨p', xs', y, j, ep, rfl, em', hRem, q3⟩ := q2
  cases ep
  obtain ⟨u, r, rfl, r1', r2⟩ := rs2
  exact ⟨P, p, xs', y, M2, Qd, j, u, rfl, by rw [show r = [] from r2], em', g2, r1', hRem, q3, fun v H' l => k _ _ (l.trans (z1.trans z2))⟩
/-- list.pop at a place -/
def rPopD : D → List D → Mem → DK → Prop := fun o ds M Q => ∃ p xs i y, o = .ref p ∧ ds = [.int (i : Nat)] ∧ M p = some (.lst xs) ∧ i < 1000000 ∧ xs[i]? = some y ∧ Q y (mput M p (.lst (xs.eraseIdx i)))
def dPop (w : DE) (t : DA) : DE := fun δ M Q => w δ M fun o M1 => isLstD o M1 ∧ t δ M1 fun ds M2 => rPopD o ds M2 Q
theorem d_pop {e : Expr} {w : DE} {t : DA} (h : PE X e (tBM X.K "list" rPopAt (lE (bs X CR E W) w) (lA (bs X CR E W) t))) : PD X (bs X CR E W) e (dPop w t) := by
  refine h.imp fun σ H Q h => ?_
  obtain ⟨P, δ, M, Qd, hS, g, x, w, k⟩ := h
  refine ⟨P, δ, M, _, hS, g, x, w, fun v H1 ⟨d, M1, z1, g1, r1, ⟨p, xs, ed, em⟩, q⟩ => ?_⟩
  subst ed
  obtain ⟨vs, eh, rs⟩ := g1.at_ p _ em
  rw [show v = .ref p from r1]
  refine ⟨.inl ⟨rfl, vs, .of eh⟩, P, δ, M1, _, hS.mono z1, g1, x.trans z1, q, fun us H2 ds M2 z2 g2 rs2 q2 => ?_⟩
  obtain ⟨p', xs', i, y, ep, rfl, em', hi, ey, q3⟩ := q2
  cases ep
  obtain ⟨u, r, rfl, r1', r2⟩ := rs2
  obtain ⟨vs', eh', rs'⟩ := g2.at_ p _ em'
  obtain ⟨v, ev, rv⟩ := rs'.get ey
  have z3 : Fz ⟨X.K, CR, P⟩ H2 M2 (upd H2 p (.lst (vs'.eraseIdx i))) (mput M2 p (.lst (xs'.eraseIdx i))) := fz_put g2 em'
  have hl : i < vs'.length := (List.getElem?_eq_some_iff.mp ev).1
  have hs : seqIndex? (i : Int) vs'.length = some i := by
    have := PyProof.Rows.seqIndex_at (i := (i : Int)) (n := vs'.length) (by omega) (by omega)
    rw [this, Int.toNat_natCast]
  refine ⟨p, vs', (i : Int), i, v, rfl, by rw [show r = [] from r2, show u = .int _ from r1'], eh', by omega, by omega, hs, ev, ?_⟩
  exact k _ _ ⟨y, _, (z1.trans z2).trans z3, good_put g2 (g2.noP em') z3 (show RepO _ _ _ p (.lst _) from ⟨_, upd_same, (reps_erase i rs').mono z3⟩), rv.mono z3, q3⟩
/-- == of terms: a weight and a row -/
def ansTm : Ans := fun a b => match a, b with
  | .rat p, .rat q => some (decide (p = q))
  | .tup xs, .tup ys => ansT ansR (.tup xs) (.tup ys)
  | _, _ => none
theorem eqOk_mono {k m : Nat} {f : Ans} (h : EqOk X CR k f) (hk : k ≤ m) : EqOk X CR m f := fun A pins s σ H P M a b x y u v r sb => h A pins s σ H P M a b x y u v r (sb.mono hk)
theorem eqOk_tm (T : RatT X.prog X.w X.K X.mg X.base CR) : EqOk X CR 39 ansTm := fun A pins s σ H P M a b x y u v r sb I ru rv g ra rb h => by
  unfold ansTm at h
  split at h
  · exact eqOk_mono (eqOk_rat T) (by decide) A pins s σ H P M _ _ x y u v r sb I ru rv g ra rb (by unfold ansR; exact h)
  · exact eqOk_tup (eqOk_rat T) refl_rat A pins s σ H P M _ _ x y u v r sb I ru rv g ra rb h
  · cases h
theorem refl_tm : AnsRefl ansTm := fun O H M d e x r h1 h2 h => by
  unfold ansTm at h
  split at h
  · exact refl_rat O H M _ _ x r h1 h2 (by unfold ansR; exact h)
  · exact refl_tup refl_rat O H M _ _ x r h1 h2 h
  · cases h
theorem eqOk_term (T : RatT X.prog X.w X.K X.mg X.base CR) : EqOk X CR 40 (ansT ansTm) := eqOk_tup (eqOk_tm T) refl_tm
theorem d_remT {k : Nat} (T : RatT X.prog X.w X.K X.mg X.base CR) (hr : Room k X.A) (hk : 41 ≤ k := by decide) : MtM X "list.remove" (rRemV X.K CR (ansT ansTm)) := mt_remT (eqOk_term T) (hr.mono hk)
end
/-! ### texts -/
theorem hu65 {A : Around} {k : Nat} (hr : Room k A) : A.units + 65 < cLine := by have := hr.un; omega
theorem reps_strs {O : Own} {H M} : ∀ ns : List Str, Reps O H M (ns.map D.str) (ns.map V.str)
  | [] => rfl
  | n :: ns => ⟨_, _, rfl, rfl, reps_strs ns⟩
section
variable {X : Cx} {CR : Addr} {E : DXS} {W : WX} {pos apos : Pos} {o e : Expr} {w v : DE}
def dSplit (w v : DE) : DE := fun δ M Q => w δ M fun x M1 => (∃ a, x = .str a) ∧ v δ M1 fun y M2 => ∃ a b, x = .str a ∧ y = .str b ∧ (b.length == 0) = false ∧ a.length + 2 ≤ sizeLine ∧ Q (.lst ((Txt.split a b).map D.str)) M2
theorem d_split (ho : PD X (bs X CR E W) o w) (he : PD X (bs X CR E W) e v) (hs : starEach [e] X.env = [(false, eval e X.env)] := by rfl) (hbase : attributeBase o "split" X.env (eval o X.env) = eval o X.env := by rfl) (hline : (apos.endLine == pos.line) = true := by rfl) : PD X (bs X CR E W) (.Call (.Attribute o "split" apos) [e] [] pos) (dSplit w v) := by
  refine (pe_split ho he hs hbase hline).imp fun σ H Q h => ?_
  obtain ⟨P, δ, M, Qd, hS, g, x, w, k⟩ := h
  refine ⟨P, δ, M, _, hS, g, x, w, fun vx H1 ⟨d, M1, z1, g1, r1, ⟨a, ea⟩, q⟩ => ?_⟩
  subst ea
  rw [show vx = .str a from r1]
  refine ⟨⟨a, rfl⟩, P, δ, M1, _, hS.mono z1, g1, x.trans z1, q, fun vy H2 ⟨d2, M2, z2, g2, r2, a', b, e1, e2, hb, hl, q2⟩ => ?_⟩
  cases e1
  subst e2
  rw [show vy = .str b from r2]
  exact ⟨a, b, rfl, rfl, hb, hl, fun p hp => k _ _ ((newL g2 hp (reps_strs _) q2).trans (z1.trans z2))⟩
def dStarts (w v : DE) : DE := fun δ M Q => w δ M fun x M1 => (∃ a, x = .str a) ∧ v δ M1 fun y M2 => ∃ a b, x = .str a ∧ y = .str b ∧ Q (.bl (Txt.startswith a b)) M2
theorem d_starts (ho : PD X (bs X CR E W) o w) (he : PD X (bs X CR E W) e v) (hs : starEach [e] X.env = [(false, eval e X.env)] := by rfl) (hbase : attributeBase o "startswith" X.env (eval o X.env) = eval o X.env := by rfl) (hline : (apos.endLine == pos.line) = true := by rfl) : PD X (bs X CR E W) (.Call (.Attribute o "startswith" apos) [e] [] pos) (dStarts w v) := by
  refine (pe_m1 PySem.F.slot_str_startswith PySem.F.type_str_startswith mt_startswith ho he hs hbase hline).imp fun σ H Q h => ?_
  obtain ⟨P, δ, M, Qd, hS, g, x, w, k⟩ := h
  refine ⟨P, δ, M, _, hS, g, x, w, fun vx H1 ⟨d, M1, z1, g1, r1, ⟨a, ea⟩, q⟩ => ?_⟩
  subst ea
  rw [show vx = .str a from r1]
  refine ⟨⟨a, rfl⟩, P, δ, M1, _, hS.mono z1, g1, x.trans z1, q, fun vy H2 ⟨d2, M2, z2, g2, r2, a', b, e1, e2, q2⟩ => ?_⟩
  cases e1
  subst e2
  rw [show vy = .str b from r2]
  exact ⟨a, b, rfl, rfl, k _ _ ((lf_bl g2 q2).trans (z1.trans z2))⟩
/-- slices of a text -/
def dSlS (w : DE) (l u : DO) : DE := fun δ M Q => w δ M fun d M1 => l δ M1 fun lo M2 => u δ M2 fun hi M3 => ∃ z, d = .str z ∧ z.length ≤ sizeLine ∧ Q (.str (cutS z lo hi)) M3
theorem d_slS {lo hi : Option Expr} {l u : DO} {p2 : Pos} (he : PD X (bs X CR E W) e w) (hl : PDO X (bs X CR E W) lo l) (hu : PDO X (bs X CR E W) hi u) : PD X (bs X CR E W) (.Subscript e (.Slice lo hi none p2) pos) (dSlS w l u) := by
  refine (pe_slice sl_str he hl hu).imp fun σ H Q h => ?_
  obtain ⟨P, δ, M, Qd, hS, g, x, w, k⟩ := h
  refine ⟨P, δ, M, _, hS, g, x, w, fun v H1 ⟨d, M1, z1, g1, r1, q1⟩ => ?_⟩
  refine ⟨P, δ, M1, _, hS.mono z1, g1, x.trans z1, q1, fun o H2 M2 z2 g2 q2 => ?_⟩
  refine ⟨P, δ, M2, _, (hS.mono z1).mono z2, g2, (x.trans z1).trans z2, q2, fun o2 H3 M3 z3 g3 q3 => ?_⟩
  obtain ⟨z, rfl, hz, q⟩ := q3
  rw [show v = .str z from r1]
  exact ⟨z, rfl, hz, k _ _ ((lf_str g3 q).trans ((z1.trans z2).trans z3))⟩
def rIntS : DC := fun ds M Q => ∃ a n, ds = [.str a] ∧ PySem.intText? a = some n ∧ a.length ≤ 640 ∧ Q (.int n) M
theorem c_intS : CallR X (.type "int") (lC X.K CR rIntS) := call_int_str.imp fun xs H Q hh => by
  obtain ⟨P, ds, M, Qd, rs, gd, ⟨a, n, rfl, h1, h2, q⟩, k⟩ := hh
  obtain ⟨v, r, rfl, r1, r2⟩ := rs
  rw [show r = [] from r2, show v = _ from r1]
  exact ⟨a, n, rfl, h1, h2, k _ _ (lf_int gd q)⟩
def rStrI : DC := fun ds M Q => ∃ i : Int, ds = [.int i] ∧ i.natAbs.log2 < 1920 ∧ Q (.str (Str.ofString (toString i))) M
theorem c_str : CallR X (.type "str") (lC X.K CR rStrI) := call_str_int.imp fun xs H Q hh => by
  obtain ⟨P, ds, M, Qd, rs, gd, ⟨i, rfl, h1, q⟩, k⟩ := hh
  obtain ⟨v, r, rfl, r1, r2⟩ := rs
  rw [show r = [] from r2, show v = _ from r1]
  exact ⟨i, rfl, h1, k _ _ (lf_str gd q)⟩
def rMax2 : DC := fun ds M Q => ∃ i j : Int, ds = [.int i, .int j] ∧ Q (.int (if j > i then j else i)) M
theorem c_max2 (hc : X.calm = true) : CallR X (.builtin "max") (lC X.K CR rMax2) := (call_max2 hc).imp fun xs H Q hh => by
  obtain ⟨P, ds, M, Qd, rs, gd, ⟨i, j, rfl, q⟩, k⟩ := hh
  obtain ⟨v, r, rfl, r1, v2, r2, rfl, r3, r4⟩ := rs
  rw [show r2 = [] from r4, show v = _ from r1, show v2 = _ from r3]
  exact ⟨i, j, rfl, k _ _ (lf_int gd q)⟩
/-- x in [..] of plain data -/
def rInP : D2 := fun a b M Q => ∃ ds : List D, b = .lst ds ∧ plD a 8 = true ∧ plD b 8 = true ∧ ∀ k : Bool, (k = true ↔ a ∈ ds) → Q (.bl k) M
theorem any_eqv {a : D} {n : Nat} (ha : plD a 8 = true) : ∀ {ds : List D}, plDs ds n = true → ((datDs ds).any (fun z => PyData.eqv z (datD a)) = true ↔ a ∈ ds)
  | [], _ => by simp [datDs]
  | d :: ds, h => by
    have h1 : plD d n = true ∧ plDs ds n = true := by
      have : (plD d n && plDs ds n) = true := h
      exact Bool.and_eq_true_iff.mp this
    show ((PyData.eqv (datD d) (datD a) || (datDs ds).any fun z => PyData.eqv z (datD a)) = true ↔ _)
    rw [Bool.or_eq_true, eqv_iff h1.1 ha, any_eqv ha h1.2, List.mem_cons]
    constructor
    · rintro (h | h)
      · exact .inl h.symm
      · exact .inr h
    · rintro (h | h)
      · exact .inl h.symm
      · exact .inr h
theorem o_inP (hu : X.A.units + 65 < cLine) : OpR X (compareOp .In) (l2 X.K CR rInP) := (op_inD hu).imp fun x y H Q hh => by
  obtain ⟨P, a, b, M, Qd, ra, rb, gd, ⟨ds, rfl, pa, pb, q⟩, k⟩ := hh
  exact ⟨_, _, dp_of pa ra, dp_of pb rb, shaped_of pa, shaped_of pb, k _ _ (lf_bl gd (q _ (any_eqv (n := 7) pa pb)))⟩
/-- a text times a number -/
def rMulS : D2 := fun a b M Q => ∃ (z : Str) (n : Int), a = .str z ∧ b = .int n ∧ PySem.MulOk z n ∧ Q (.str (Txt.mul z n)) M
theorem o_mulS : OpR X (binaryOp .Mult) (l2 X.K CR rMulS) := by
  intro pins s σ H x y v u Q I rx ry h
  obtain ⟨P, a, b, M, Qd, ra, rb, g, ⟨z, n, rfl, rfl, hm, q⟩, kk⟩ := h
  obtain rfl : x = V.str z := ra
  obtain rfl : y = V.int n := rb
  obtain ⟨t, rfl⟩ := rx
  obtain ⟨t', rfl⟩ := ry
  exact PySem.SB.mul hm fun t2 k => ⟨.str (Txt.mul z n), H, I.tok _, ⟨_, rfl⟩, kk _ _ (lf_str g q)⟩
/-! f-strings -/
def dFmt (w : DE) : DE := fun δ M Q => w δ M fun x M1 => (∃ y : Str, x = .str y ∧ y.length ≤ sizeLine ∧ Q (.str y) M1) ∨ ∃ i : Int, x = .int i ∧ i.natAbs.log2 < 1920 ∧ Q (.str (Str.ofString (toString i))) M1
theorem d_fmt (he : PD X (bs X CR E W) e w) : PD X (bs X CR E W) (.FormattedValue e (-1) none pos) (dFmt w) := by
  refine (pe_fmt he).imp fun σ H Q h => ?_
  obtain ⟨P, δ, M, Qd, hS, g, x, w, k⟩ := h
  refine ⟨P, δ, M, _, hS, g, x, w, fun vx H1 ⟨d, M1, z1, g1, r1, q⟩ => ?_⟩
  rcases q with ⟨y, rfl, hl, q⟩ | ⟨i, rfl, hl, q⟩
  · rw [show vx = .str y from r1]; exact .inl ⟨y, rfl, hl, k _ _ ((lf_str g1 q).trans z1)⟩
  · rw [show vx = .int i from r1]; exact .inr ⟨i, rfl, hl, k _ _ ((lf_str g1 q).trans z1)⟩
inductive PJD (X : Cx) (B : Bs) : List Expr → List DE → Prop where
  | nil : PJD X B [] []
  | cons {e : Expr} {w : DE} {es : List Expr} {ws : List DE} (h : PD X B e w) (r : PJD X B es ws) : PJD X B (e :: es) (w :: ws)
def dJs : List DE → Str → DS0 → Mem → (Str → Mem → Prop) → Prop
  | [], acc, _, M, Q => Q acc M
  | w :: ws, acc, δ, M, Q => w δ M fun x M1 => ∃ y : Str, x = .str y ∧ (acc ++ y).length ≤ sizeLine ∧ dJs ws (acc ++ y) δ M1 Q
def dJoin (ws : List DE) : DE := fun δ M Q => dJs ws Str.empty δ M fun out M1 => Q (.str out) M1
theorem PJD.pj {B : Bs} {es : List Expr} {ws : List DE} (h : PJD X B es ws) : PJ X es (ws.map (lE B)) := by
  induction h with
  | nil => exact .nil
  | cons h r ih => exact .cons h ih
theorem js_of {P : Addr → Prop} {B : Bs} {σ : L2.St} {δ : DS0} {Q : Str → Hp → Prop} {Qd : Str → Mem → Prop} : ∀ (ws : List DE) (acc : Str) (H : Hp) (M : Mem), RepS ⟨B.K, B.CR, P⟩ H M δ σ → Good ⟨B.K, B.CR, P⟩ H M → XL ⟨B.K, B.CR, P⟩ H M B.E B.W → dJs ws acc δ M Qd → (∀ out H' M', Fz ⟨B.K, B.CR, P⟩ H M H' M' → Good ⟨B.K, B.CR, P⟩ H' M' → Qd out M' → Q out H') → tJs (ws.map (lE B)) acc σ H Q
  | [], acc, H, M, hS, g, x, h, k => k acc H M Fz.refl g h
  | w :: ws, acc, H, M, hS, g, x, h, k => by
    refine ⟨P, δ, M, _, hS, g, x, h, fun vx H1 ⟨d, M1, z1, g1, r1, y, ey, hl, q⟩ => ?_⟩
    subst ey
    exact ⟨y, r1, hl, js_of ws _ H1 M1 (hS.mono z1) g1 (x.trans z1) q fun out H' M' z g' q' => k out H' M' (z1.trans z) g' q'⟩
theorem d_join {v1 v2 : Expr} {rest : List Expr} {ws : List DE} (h : PJD X (bs X CR E W) (v1 :: v2 :: rest) ws) : PD X (bs X CR E W) (.JoinedStr (v1 :: v2 :: rest) pos) (dJoin ws) := by
  refine (pe_joined h.pj).imp fun σ H Q hh => ?_
  obtain ⟨P, δ, M, Qd, hS, g, x, w, k⟩ := hh
  exact js_of ws _ H M hS g x w fun out H' M' z g' q => k _ _ ⟨.str out, M', z, g', rfl, q⟩
/-! str of a fraction -/
def rStrR (sp : DSp) : DC := fun ds M Q => (∃ i : Int, ds = [.int i] ∧ i.natAbs.log2 < 1920 ∧ Q (.str (Str.ofString (toString i))) M) ∨ ∃ q, ds = [.rat q] ∧ sp [.rat q] M (fun d M' => (∃ y, d = .str y) ∧ Q d M') noX
theorem c_strR {k : Nat} {sp : DSp} (O : Op1 X.prog X.w X.K X.mg X.base CR "__str__" sp) (hr : Room k X.A) (hk : 40 ≤ k := by decide) : CallR X (.type "str") (lC X.K CR (rStrR sp)) := by
  intro pins s σ H xs us Q I rx ⟨P, ds, M, Qd, rs, g, h, kk⟩
  rcases h with ⟨i, rfl, hl, q⟩ | ⟨q, rfl, h⟩
  · exact c_str pins s σ H xs us Q I rx ⟨P, _, M, Qd, rs, g, ⟨i, rfl, hl, q⟩, kk⟩
  · obtain ⟨f, fd, F, hb, hs, hf⟩ := O.ex
    have rs2 := rs
    obtain ⟨x, r0, rfl, ra, r1⟩ := rs
    obtain rfl : r0 = [] := r1
    obtain ⟨a, dx, rfl, _, ha⟩ := ra
    cases rx with
    | cons ru rn =>
      cases rn
      rename_i u
      obtain rfl : u = Value.ref a := ru
      obtain ⟨mA, J, _⟩ := ins_get I.hok ha
      obtain ⟨od, J, _⟩ := J.look
      have hr2 : Room 38 X.A.in1.in1 := ((hr.mono hk).in1).in1
      refine PySem.W.kso_call hr2.units0 I.kIn J hs hf ?_
      refine wpAny_call (codeAny_mono (F.run X.A.in1.in1 X.stack s H ⟨[.ref a], []⟩ [.ref a] [.ref a] (fun v H' => ∃ y, v = .str y ∧ Q v H') E0 hr2 (I.env0.in1).in1 (by simpa using hb s [.ref a] I.kIn rfl) (.cons rfl .nil) (lSp_of (Qd := fun d M' => (∃ y, d = .str y) ∧ Qd d M') g rs2 h fun v H' ⟨d, M', z, g', r, ⟨y, ey⟩, q'⟩ => ?_)) fun r s' hq => ?_)
      · subst ey
        exact ⟨y, r, kk _ _ ⟨_, M', z, g', r, q'⟩⟩
      · cases r with
        | error e => exact passL pins σ H s e s' I hq
        | ok fl =>
          cases fl with
          | ret w =>
            obtain ⟨v, H2, I2, rv, y, ey, q2⟩ := I.after hq
            subst ey
            obtain ⟨t, rfl⟩ := rv
            exact ⟨.str y, H2, I2, ⟨_, rfl⟩, q2⟩
          | next => exact False.elim hq
          | brk => exact False.elim hq
          | cont => exact False.elim hq
end
/-! ### errors with a field -/
def oexB (K : PySem.W.Frag) (C : Addr) : Bool := match K.lookup C with
  | some ⟨.type "type", _, .cls cd, sl⟩ => (match cd.mro, sl.toList with
    | .ref C' :: bm, [_, _, _, _, some (.builtin n), _] => C' == C && n == "ValueError.__new__" && !cd.hasDel && cd.hasDict && PySem.HandSPX.refsVE bm
    | _, _ => false)
  | _ => false
theorem oexB_ok {K : PySem.W.Frag} {C : Addr} (q : oexB K C = true) : ∃ nm q N bs bm sn sub ab col dd k0 k1 k2 k3 k5, K.lookup C = some (excClassObj nm q C N bs bm true sn sub ab col dd k0 k1 k2 k3 k5 "ValueError.__new__") ∧ PySem.HandSPX.refsVE bm = true := by
  unfold oexB at q
  split at q
  · rename_i dd cd sl ho
    split at q
    · rename_i C' bm k0 k1 k2 k3 n k5 hm hs
      simp only [Bool.and_eq_true, beq_iff_eq, Bool.not_eq_true'] at q
      obtain ⟨⟨⟨⟨rfl, rfl⟩, hdel⟩, hd0⟩, ht⟩ := q
      obtain ⟨nm, bs, mro, ns, qn, hd, sn, sub, ab, col, del⟩ := cd
      dsimp only at hm hdel hd0
      subst hm hdel hd0
      have hsl : sl = #[k0, k1, k2, k3, some (.builtin "ValueError.__new__"), k5] := by
        obtain ⟨l⟩ := sl
        simp only at hs
        rw [hs]
      subst hsl
      exact ⟨nm, qn, ns, bs, bm, sn, sub, ab, col, dd, k0, k1, k2, k3, k5, ho, ht⟩
    · cases q
  · cases q
/-- what the text must hold of the error's class: one field f -/
structure ErrF (K : PySem.W.Frag) (mg : Str → Option Value) (x : Str) (C fI : Addr) (f : Str) : Prop where
  o : OexC K C
  g : mg x = some (.ref C)
  iC : PySem.W.findIn K (.ref C) "__init__" = some (some (.ref fI))
  tI : PySem.W.typeIn K (.ref fI) = some (.type "function")
  no : PySem.W.findIn K (.ref C) f = some none
  ga : PySem.W.findIn K (.ref C) "__getattribute__" = some (some (.builtin "BaseException.__getattribute__"))
  gg : PySem.W.findIn K (.ref C) "__getattr__" = some none
  hd : PySem.W.hasDictIn K C = true
  self : PySem.W.exmOne K (.ref C) (.ref C) = some true
def errB (K : PySem.W.Frag) (x f : Str) : Bool :=
  oexB K (He.ga K x) && (He.eqO (PySem.W.findIn K (.ref (He.ga K x)) "__setattr__") (some (some (.builtin "object.__setattr__"))) && (decide (PySem.W.subIn K (.ref (He.ga K x)) (.type "BaseException") = some true) && (decide (PySem.W.typeIn K (.ref (He.ga K x)) = some (.type "type")) && (PySem.W.keepIn K (.ref (He.ga K x)) &&
  (He.eqO (PySem.W.nsIn K mainGlobals x) (some (some (.ref (He.ga K x)))) && (He.eqO (PySem.W.findIn K (.ref (He.ga K x)) "__init__") (some (some (.ref (He.ma K (He.ga K x) "__init__")))) && (decide (PySem.W.typeIn K (.ref (He.ma K (He.ga K x) "__init__")) = some (.type "function")) &&
  (He.eqO (PySem.W.findIn K (.ref (He.ga K x)) f) (some none) && (He.eqO (PySem.W.findIn K (.ref (He.ga K x)) "__getattribute__") (some (some (.builtin "BaseException.__getattribute__"))) && (He.eqO (PySem.W.findIn K (.ref (He.ga K x)) "__getattr__") (some none) && (PySem.W.hasDictIn K (He.ga K x) &&
  decide (PySem.W.exmOne K (.ref (He.ga K x)) (.ref (He.ga K x)) = some true))))))))))))
theorem errB_ok {K : PySem.W.Frag} {h : Heap} {mg : Str → Option Value} {x f : Str} (X : K.In h) (G : h.Ns mainGlobals mg) (c : errB K x f = true) : ErrF K mg x (He.ga K x) (He.ma K (He.ga K x) "__init__") f := by
  obtain ⟨c1, c⟩ := He.ba c
  obtain ⟨c2, c⟩ := He.ba c
  obtain ⟨c3, c⟩ := He.ba c
  obtain ⟨c4, c⟩ := He.ba c
  obtain ⟨c5, c⟩ := He.ba c
  obtain ⟨c6, c⟩ := He.ba c
  obtain ⟨c7, c⟩ := He.ba c
  obtain ⟨c8, c⟩ := He.ba c
  obtain ⟨c9, c⟩ := He.ba c
  obtain ⟨c10, c⟩ := He.ba c
  obtain ⟨c11, c⟩ := He.ba c
  obtain ⟨c12, c13⟩ := He.ba c
  exact ⟨⟨oexB_ok c1, He.eqO_ok c2, of_decide_eq_true c3, of_decide_eq_true c4, c5⟩, PySem.W.mg_of X G (He.eqO_ok c6), He.eqO_ok c7, of_decide_eq_true c8, He.eqO_ok c9, He.eqO_ok c10, He.eqO_ok c11, c12, of_decide_eq_true c13⟩
/-- its __init__ -/
def spOe (C : Addr) (f : Str) : Sp := fun vs H Q _ => ∃ a v, vs = [.ref a, v] ∧ H a = some (exo a C none) ∧ ∀ dx, H dx = none → dx ≠ a → Q .non (upd (upd H dx (exd dx [(f, v)])) a (exo a C (some dx)))
/-- .. with its __init__ walked -/
structure ErrT (P : Program) (w : World) (K : PySem.W.Frag) (mg : Str → Option Value) (base : Heap) (x : Str) (C : Addr) (f : Str) : Prop where
  ex : ∃ fI fd p, ErrF K mg x C fI f ∧ FnOk P w K mg base (L2.CX P w) 2 fI fd ["self", p] (spOe C f) ∧ Binds K fd ["self", p] []
theorem ErrT.self {P w K mg base x C f} (T : ErrT P w K mg base x C f) : PySem.W.exmOne K (.ref C) (.ref C) = some true := let ⟨_, _, _, e, _⟩ := T.ex; e.self
theorem ErrT.g {P w K mg base x C f} (T : ErrT P w K mg base x C f) : mg x = some (.ref C) := let ⟨_, _, _, e, _⟩ := T.ex; e.g
section
variable {P : Program} {w : World} {K : PySem.W.Frag} {mg : Str → Option Value} {base : Heap} {CR C fI : Addr}
theorem okOe {x qual p fld : Str} {st : Stmt} {f : Addr} {fd : FuncData} {kws : List (Str × V)} (F : FunD K x qual (defArgs st) (defBody st) (defScope st) [] kws f fd) (S : FnScope ["self", p] ["self", p] (defScope st)) (T : OexC K C) (no : PySem.W.findIn K (.ref C) fld = some none)
    (der : ∀ (cdv : Value) (A : Around) (outer : List Env) (s : Shared) (H : Hp) (E : XK), PSs (cxOf (L2.CX P w) P w K mg base ["self", p] qual (defScope st) f cdv A outer s H E).nox (defBody st) (tOst K fld (tVar 0) (tVar 1))) : FnOk P w K mg base (L2.CX P w) 2 f fd ["self", p] (spOe C fld) := by
  refine F.ok (k := 1) S (fun vs H Q E h => ?_) (fun cdv A outer s H vs Q E hr h => ⟨tOst K fld (tVar 0) (tVar 1), (der cdv A outer s H E).nox, ?_⟩)
  · obtain ⟨a, v, rfl, _⟩ := h; rfl
  · obtain ⟨a, v, rfl, h0, hq⟩ := h
    exact ⟨_, rfl, _, rfl, a, C, rfl, T, no, .inl ⟨h0, fun dx hd hne => hq dx hd hne⟩⟩
theorem errT_of {x qual p fld : Str} {st : Stmt} {fd : FuncData} (e : ErrF K mg x C fI fld) (F : FunD K "__init__" qual (defArgs st) (defBody st) (defScope st) [] [] fI fd) (ok : FnOk P w K mg base (L2.CX P w) 2 fI fd ["self", p] (spOe C fld))
    (h : ∀ (kV doc pm : Value) (an : Option Addr) (cdv ct a b : Value), bindArgs (PySem.W.fnOf "__init__" qual (defArgs st) (defBody st) (defScope st) .none kV doc pm an cdv ct) ⟨[a, b], []⟩ = pure ((["self", p] : List Str).zip [a, b])) : ErrT P w K mg base x C fld :=
  ⟨fI, fd, p, e, ok, F.bindsN fun kV doc pm an cdv ct us hl => match us, hl with | [a, b], _ => h kV doc pm an cdv ct a b⟩
end
section
variable {X : Cx} {CR C : Addr} {E : DXS} {W : WX} {pos p p2 pos' : Pos} {x f : Str} {e : Expr} {w : DE}
def dRaiseF (C : Addr) (f : Str) (w : DE) (E : DXS) : DSt := fun _ δ M => w δ M fun y M1 => E C [f] [y] δ M1
theorem s_raiseF {k : Nat} (T : ErrT X.prog X.w X.K X.mg X.base x C f) (tk : Takes X W) (hr : Room k X.A) (he : PD X (bs X CR E W) e w) (hc : X.calm = true := by rfl) (hg : Gl X x := by rfl) (hk : 3 ≤ k := by decide)
    (hdb : (x == ("__debug__" : Str)) = false := by decide) (hs : starEach (e :: []) X.env = (false, eval e X.env) :: starEach [] X.env := by rfl) (hpl : (backTo pos (starEach [] X.env)).any (·.1) = false := by rfl) :
    PDS X (bs X CR E W) (.Raise (some (.Call (.Name x p) [e] [] pos)) none pos') (dRaiseF C f w E) := by
  obtain ⟨fI, fd, pn, t, F, hb⟩ := T.ex
  refine (ps_raise hc tk (pmk_oex t.o t.iC t.tI F (hr.mono hk) hb .nil passL hg t.g (pa_cons he pa_nil hs) hdb hs hpl)).imp fun Dn σ H h => ?_
  obtain ⟨P, δ, M, Dd, hS, g, xl, w, k⟩ := h
  refine ⟨P, δ, M, _, hS, g, xl, w, fun v H1 ⟨y, M1, z1, g1, r1, q⟩ => ⟨(by show 1 ≤ 1000; decide), fun a ha => ⟨a, v, rfl, upd_same, fun dx hd hne => ⟨rfl, dx, [(f, v)], upd_same, ?_, ?_, ?_⟩⟩⟩⟩
  · rw [upd_ne hne]; exact upd_same
  · have := hd; rw [upd_ne hne] at this; exact this
  · have hd1 : H1 dx = none := by have := hd; rw [upd_ne hne] at this; exact this
    have eH : upd (L2.del (upd (upd (upd H1 a (exo a C none)) dx (exd dx [(f, v)])) a (exo a C (some dx))) a) dx (.xd [(f, v)]) = upd H1 dx (.xd [(f, v)]) := by
      funext b
      by_cases h1 : b = dx
      · rw [h1, upd_same, upd_same]
      · rw [upd_ne h1, upd_ne h1]
        by_cases h2 : b = a
        · rw [h2, L2.del_same]; exact ha.symm
        · rw [L2.del_ne h2, upd_ne h2, upd_ne h1, upd_ne h2]
    rw [eH]
    have z2 : Fz ⟨X.K, CR, P⟩ H1 M1 (upd H1 dx (.xd [(f, v)])) M1 := fz_new g1 hd1
    have fr := g1.none hd1
    refine xl (.ref C) (some dx) σ _ ⟨C, [f], [y], δ, M1, rfl, z1.trans z2, good_new g1 hd1, (hS.mono z1).mono z2, ?_, q⟩
    exact .inr ⟨by simp, dx, [v], rfl, fr, upd_same, rfl, Reps.one (r1.mono z2)⟩
/-- data that tells itself, whatever the memory -/
def flatD : D → Bool
  | .non => true | .bl _ => true | .int _ => true | .str _ => true | _ => false
def flatV1 : D → V
  | .bl b => .bl b | .int i => .int i | .str x => .str x | _ => .non
theorem flat_rep {O : Own} {H M} {d : D} {v : V} (h : flatD d = true) (r : Rep O H M d v) : v = flatV1 d := by
  cases d <;> first | exact r | cases h
theorem rep_flat {O : Own} {H M} {d : D} (h : flatD d = true) : Rep O H M d (flatV1 d) := by
  cases d <;> first | exact rfl | cases h
/-- the error that is caught: its dict stands -/
def Held (d : Option Addr) (f : Str) (y : D) (H : Hp) : Prop := ∃ dd, d = some dd ∧ H dd = some (.xd [(f, flatV1 y)])
/-- try: .. except Z as n: .., errors with one flat field each -/
def dTryF (C : Addr) (f : Str) (i : Nat) (wb : DXS → DSt) (ws : Addr → D → DSt) : DSt := fun Dn δ M => wb (fun C' ns fs δ' M' => C' = C ∧ ∃ y, ns = [f] ∧ fs = [y] ∧ flatD y = true ∧ ∀ a, ws a y { nx := fun δ2 M2 => Dn.nx (δ2.set i none) M2, rt := Dn.rt, bk := fun δ2 M2 => Dn.bk (δ2.set i none) M2, ct := fun δ2 M2 => Dn.ct (δ2.set i none) M2 } (δ'.set i (some (.ref a))) M') Dn δ M
theorem errD_one {O : Own} {H M} {d : Option Addr} {f : Str} {y : D} (h : ErrD O H M d [f] [y]) (hf : flatD y = true) : Held d f y H ∧ ∃ dd, d = some dd ∧ Fre O M dd := by
  rcases h with ⟨h, _⟩ | ⟨_, dd, vs, e, fr, eh, hl, r⟩
  · cases h
  · obtain ⟨v, r0, rfl, r1, r2⟩ := r
    rw [show r0 = [] from r2, flat_rep hf r1] at eh
    exact ⟨⟨dd, e, eh⟩, dd, e, fr⟩
abbrev tru : DXS := fun _ _ _ _ _ => True
theorem s_tryF {n : Str} {i : Nat} {body suite : List Stmt} {b0 : Stmt} {np : Pos} {wb : DXS → DSt} {ws : Addr → D → DSt} (T : ErrT X.prog X.w X.K X.mg X.base x C f) (hc : Names X x (.ref C)) (tk : Takes X W) (hN : X.N.Nodup)
    (hb : ∀ (E' : DXS) (W' : WX) (pn : List (Addr × Obj)) (xe : Value → Shared → Prop), Takes (X.tr pn xe) W' → PassesOwn (model X.prog X.w) X.A X.env xe → PDSs (X.tr pn xe) (bs X CR E' W') body (wb E'))
    (hsu : ∀ (a : Addr) (oe : Obj) (d : Option Addr) (y : D) (W' : WX) (pn : List (Addr × Obj)), Zc (.ref C) d oe → (∃ vs, oe.data = .fields vs) → flatD y = true → (∀ c d' σ' H', W' c d' σ' H' → Held d f y H') → PDSs (X.suite a ((a, oe) :: pn)) (bs X CR tru W') (b0 :: suite) (ws a y))
    (hi : X.N[i]? = some n := by rfl) (hln : X.env.kindOf n = some .local := by rfl) (hs : X.stack = X.env :: X.outer := by rfl) (hf : X.env.frame = some X.env.locals := by rfl) :
    PDS X (bs X CR E W) (.Try body [.ExceptHandler (some (.Name x np)) (some n) (b0 :: suite) pos'] [] [] pos) (dTryF C f i wb ws) := by
  refine (ps_try_as (tb := fun W' Dn σ H => ∃ E', lS (bs X CR E' W') (wb E') Dn σ H) (ts := fun a cls d Dn σ H => ∃ (y : D) (W' : WX), cls = .ref C ∧ flatD y = true ∧ (∀ c d' σ' H', W' c d' σ' H' → Held d f y H') ∧ lS (bs X CR tru W') (ws a y) Dn σ H) (Wout := W) hs hf hN hi hln hc tk
    (fun W' pn xe tk' po => ⟨fun p s σ H Dn I ⟨E', q⟩ => (hb E' W' pn xe tk' po).run p s σ H Dn I q⟩) (fun a oe cls d pn hz hv => ⟨fun p s σ H Dn I ⟨y, W', h1, h2, h3, q⟩ => by
      subst h1
      exact (hsu a oe d y W' pn hz hv h2 h3).run p s σ H Dn I q⟩)).imp fun Dn σ H h => ?_
  obtain ⟨P, δ, M, Dd, hS, g, xl, w, k⟩ := h
  refine ⟨_, P, δ, M, Dd, hS, g, ?_, w, k⟩
  rintro c d σ' H' ⟨C', ns, fs, δ', M', rfl, z, g', hS', er, rfl, y, rfl, rfl, hy, hw⟩
  obtain ⟨hd, dd, ed, fr⟩ := errD_one er hy
  have kt := k.trans z
  refine ⟨true, T.self, fun _ a ha => ⟨y, LfXS ⟨X.K, CR, P⟩ H' M' tru, rfl, hy, fun c d' σ2 H2 ⟨_, _, _, _, M2, _, z2, _⟩ => ?_, P, _, M', _, hS'.set (d := .ref a) (v := .ref a) rfl, g', fun c d' σ2 H2 h => h, hw a, ?_⟩, fun e => by cases e⟩
  · obtain ⟨dd', ed', eh⟩ := hd
    exact ⟨dd', ed', (z2.st dd' _ (by rw [ed] at ed'; cases ed'; exact fr) eh).1⟩
  · exact ⟨fun σ H' ⟨δ2, M2, z2, g2, hS2, q⟩ => kt.nx _ H' ⟨_, M2, z2, g2, hS2.unset, q⟩, kt.rt, fun σ H' ⟨δ2, M2, z2, g2, hS2, q⟩ => kt.bk _ H' ⟨_, M2, z2, g2, hS2.unset, q⟩, fun σ H' ⟨δ2, M2, z2, g2, hS2, q⟩ => kt.ct _ H' ⟨_, M2, z2, g2, hS2.unset, q⟩⟩
/-- what stands in the suite -/
theorem held_at (C : Addr) {P : Addr → Prop} {H : Hp} {M : Mem} {W' : WX} {d : Option Addr} {y : D} {σ : L2.St} {δ : DS0} (xl : XL ⟨X.K, CR, P⟩ H M tru W') (g : Good ⟨X.K, CR, P⟩ H M) (hS : RepS ⟨X.K, CR, P⟩ H M δ σ) (hW : ∀ c d' σ' H', W' c d' σ' H' → Held d f y H') : Held d f y H :=
  hW (.ref C) none σ H (xl (.ref C) none σ H ⟨C, [], [], δ, M, rfl, Fz.refl, g, hS, .inl ⟨rfl, rfl, rfl⟩, trivial⟩)
/-- e.f of the caught error -/
def dErrF (y : D) (w : DE) (a : Addr) : DE := fun δ M Q => w δ M fun d M1 => d = .ref a ∧ Q y M1
theorem d_errF {a : Addr} {oe : Obj} {d : Option Addr} {pn : List (Addr × Obj)} {W' : WX} {y : D} (T : ErrT X.prog X.w X.K X.mg X.base x C f) (hz : Zc (.ref C) d oe) (hv : ∃ vs, oe.data = .fields vs) (hy : flatD y = true) (hW : ∀ c d' σ' H', W' c d' σ' H' → Held d f y H')
    (he : PD (X.suite a ((a, oe) :: pn)) (bs X CR tru W') e w) (hb : attributeBase e f X.env (eval e X.env) = eval e X.env := by rfl) : PD (X.suite a ((a, oe) :: pn)) (bs X CR tru W') (.Attribute e f pos) (dErrF y w a) := by
  obtain ⟨fI, fd, p, t, _⟩ := T.ex
  refine ⟨fun pins s σ H Q I h => ?_⟩
  obtain ⟨P, δ, M, Qd, hS, g, xl, w, k⟩ := h
  refine attr_of hb (thn (he.run pins s σ H (fun v H' => ∃ M', v = .ref a ∧ Fz ⟨X.K, CR, P⟩ H M H' M' ∧ Good ⟨X.K, CR, P⟩ H' M' ∧ Qd y M') I ⟨P, δ, M, _, hS, g, xl, w, fun v H1 ⟨d1, M1, z1, g1, r1, ed, q⟩ => by subst ed; exact ⟨M1, r1, z1, g1, q⟩⟩) fun u s1 hh => ?_)
  obtain ⟨v, H1, I1, rv, M1, ev, z1, g1, q⟩ := hh
  subst ev
  obtain rfl : u = Value.ref a := rv
  obtain ⟨dd, ed, eh⟩ := held_at C (X := X) (f := f) (d := d) (y := y) (xl.trans z1) g1 (hS.mono z1) hW
  subst ed
  obtain ⟨ha, _⟩ := I1.pin (a, oe) (List.mem_append_left _ List.mem_cons_self)
  obtain ⟨vs, hd⟩ := hv
  have hx : ObjOk X.prog X.w H1 s1.heap dd (.xd [(f, flatV1 y)]) := I1.hok dd _ eh
  obtain ⟨mA, hns, hr⟩ := hx
  obtain ⟨od, ho, hl⟩ := lookIn_ns hns
  have l : List.lookup f [(f, flatV1 y)] = some (flatV1 y) := by simp [List.lookup]
  obtain ⟨u, hu, ru⟩ := RelO.some_of (v := flatV1 y) (o := mA f) (by rw [← l]; exact hr f)
  have J : PySem.W.InstAt s1.heap a oe C (some od) := ⟨ha, hz.1, by unfold PySem.W.notCls; rw [hd] <;> rfl, by rw [hz.2]; exact ho⟩
  exact HandSPX.exc_get I1.kIn J t.ga t.gg t.o.exC (PySem.W.findObj_own t.hd t.no rfl (by rw [hl, hu])) (handed_of ru) ⟨flatV1 y, H1, I1.tok _, ru, k _ _ ⟨y, M1, z1, g1, rep_flat hy, q⟩⟩
/-- isinstance(e, c) of it -/
structure ErrI (K : PySem.W.Frag) (mg : Str → Option Value) (x : Str) (C S : Addr) : Prop where
  ic : (PySem.W.clsIn K C).isSome = true
  ha : PySem.W.findIn K (.ref C) "__class__" = some (some (.builtin "object.__class__"))
  hn : PySem.W.specialIn K (.builtin "object.__class__") "__get__" = some (some (.builtin "getset_descriptor.__get__"))
  ht : PySem.W.takesIn K (.builtin "object.__class__") = some true
  hm : PySem.W.mroIn K C (.type "object") = some true
  g : mg x = some (.ref S)
  s : PySem.W.kitOne K (.ref C) (.ref S) = some true
def errIB (K : PySem.W.Frag) (c x : Str) : Bool :=
  (PySem.W.clsIn K (He.ga K c)).isSome && (He.eqO (PySem.W.findIn K (.ref (He.ga K c)) "__class__") (some (some (.builtin "object.__class__"))) && (He.eqO (PySem.W.specialIn K (.builtin "object.__class__") "__get__") (some (some (.builtin "getset_descriptor.__get__"))) && (decide (PySem.W.takesIn K (.builtin "object.__class__") = some true) &&
  (decide (PySem.W.mroIn K (He.ga K c) (.type "object") = some true) && (He.eqO (PySem.W.nsIn K mainGlobals x) (some (some (.ref (He.ga K x)))) && decide (PySem.W.kitOne K (.ref (He.ga K c)) (.ref (He.ga K x)) = some true))))))
theorem errIB_ok {K : PySem.W.Frag} {h : Heap} {mg : Str → Option Value} {c x : Str} (X : K.In h) (G : h.Ns mainGlobals mg) (q : errIB K c x = true) : ErrI K mg x (He.ga K c) (He.ga K x) := by
  obtain ⟨c1, q⟩ := He.ba q
  obtain ⟨c2, q⟩ := He.ba q
  obtain ⟨c3, q⟩ := He.ba q
  obtain ⟨c4, q⟩ := He.ba q
  obtain ⟨c5, q⟩ := He.ba q
  obtain ⟨c6, c7⟩ := He.ba q
  exact ⟨c1, He.eqO_ok c2, He.eqO_ok c3, of_decide_eq_true c4, of_decide_eq_true c5, PySem.W.mg_of X G (He.eqO_ok c6), of_decide_eq_true c7⟩
def rIsF (X : Cx) (CR S a : Addr) (W' : WX) : List V → Hp → VK → Prop := fun xs H Q => ∃ M P δ σ, xs = [.ref a, .ref S] ∧ XL ⟨X.K, CR, P⟩ H M tru W' ∧ Good ⟨X.K, CR, P⟩ H M ∧ RepS ⟨X.K, CR, P⟩ H M δ σ ∧ Q (.bl true) H
theorem call_isF {S a : Addr} {oe : Obj} {d : Option Addr} {pn : List (Addr × Obj)} {W' : WX} {y : D} {z : Str} (T : ErrT X.prog X.w X.K X.mg X.base x C f) (SI : ErrI X.K X.mg z C S) (hz : Zc (.ref C) d oe) (hv : ∃ vs, oe.data = .fields vs) (hW : ∀ c d' σ' H', W' c d' σ' H' → Held d f y H') :
    CallR (X.suite a ((a, oe) :: pn)) (.builtin "isinstance") (rIsF X CR S a W') := by
  obtain ⟨fI, fd, pI, t, _⟩ := T.ex
  intro pins s σ H xs us Q I r h
  obtain ⟨M, P, δ, σ0, rfl, xl, g, hS, q⟩ := h
  obtain ⟨dd, ed, eh⟩ := held_at C (X := X) (f := f) (d := d) (y := y) xl g hS hW
  subst ed
  cases r with
  | cons rx rr =>
    cases rr with
    | cons rt rr =>
      cases rr
      cases rx
      cases rt
      obtain ⟨hget, _⟩ := I.pin (a, oe) (List.mem_append.mpr (.inl List.mem_cons_self))
      obtain ⟨vs, hd⟩ := hv
      have hx : ObjOk X.prog X.w H s.heap dd (.xd [(f, flatV1 y)]) := I.hok dd _ eh
      obtain ⟨mA, hns, hr⟩ := hx
      obtain ⟨od, ho, hl⟩ := lookIn_ns hns
      have J : PySem.W.InstAt s.heap a oe C (some od) := ⟨hget, hz.1, by unfold PySem.W.notCls; rw [hd] <;> rfl, by rw [hz.2]; exact ho⟩
      exact PySem.W.kia_one (PySem.W.kitx_exc SI.ic t.ga t.gg t.o.exC SI.ha SI.hn SI.ht SI.hm) I.kIn J SI.s (fun z => nomatch z) fun tk => ⟨.bl true, H, I.kept (t' := tk) fun _ _ z => z, rfl, q⟩
theorem d_isF {S a : Addr} {oe : Obj} {d : Option Addr} {pn : List (Addr × Obj)} {W' : WX} {y : D} {z : Str} (T : ErrT X.prog X.w X.K X.mg X.base x C f) (SI : ErrI X.K X.mg z C S) (hz : Zc (.ref C) d oe) (hv : ∃ vs, oe.data = .fields vs) (hW : ∀ c d' σ' H', W' c d' σ' H' → Held d f y H') (hm : X.mg "isinstance" = none)
    (he : PD (X.suite a ((a, oe) :: pn)) (bs X CR tru W') e w) (hg : Gl X "isinstance" := by rfl) (hgz : Gl X z := by rfl) (hdb : (z == ("__debug__" : Str)) = false := by decide)
    (hs : starEach [e, .Name z p2] X.env = (false, eval e X.env) :: starEach [.Name z p2] X.env := by rfl) (hs2 : starEach [.Name z p2] X.env = (false, eval (.Name z p2) X.env) :: starEach [] X.env := by rfl) (hpl : (backTo pos (starEach [.Name z p2] X.env)).any (·.1) = false := by rfl) :
    PD (X.suite a ((a, oe) :: pn)) (bs X CR tru W') (.Call (.Name "isinstance" p) [e, .Name z p2] [] pos) (dIsE w a true) := by
  refine (pe_callB (call_isF (CR := CR) (f := f) T SI hz hv hW) hg hm (by decide +kernel) (pa_cons he (pa_cons (pe_glob (v := .ref S) hgz SI.g rfl hdb) pa_nil hs2) hs) (he := hs) (hpl := hpl)).imp fun σ H Q h => ?_
  obtain ⟨P, δ, M, Qd, hS, g, x, w, k⟩ := h
  refine ⟨P, δ, M, _, hS, g, x, w, fun v H1 ⟨d1, M1, z1, g1, r1, ed, q⟩ => ?_⟩
  subst ed
  rw [show v = .ref a from r1]
  exact ⟨M1, P, δ, σ, rfl, x.trans z1, g1, hS.mono z1, k _ _ ⟨.bl true, M1, z1, g1, rfl, q⟩⟩
end
/-! ### a staticmethod of a class -/
structure StatM (P : Program) (w : World) (K : PySem.W.Frag) (mg : Str → Option Value) (base : Heap) (CR : Addr) (k : Nat) (x : Str) (C : Addr) (m : Str) (ps : List Str) (sp : DSp) : Prop where
  g : mg x = some (.ref C)
  rd : PySem.W.readsIn K C (.type "type") = true
  ga : PySem.W.specialIn K (.ref C) "__getattribute__" = some (some (.builtin "type.__getattribute__"))
  ex : ∃ p f fd rest, PySem.W.findCls K (.ref C) (.type "type") m = some (.get (.builtin "staticmethod.__get__") (.ref p) .none (.ref C)) ∧ PySem.W.recIn K p "staticmethod" = some (.ref f :: rest) ∧ PySem.W.keepIn K (.ref f) = true ∧
    FnOk P w K mg base (L2.CX P w) k f fd ps (lSp K CR sp) ∧ Binds K fd ps []
section
variable {X : Cx} {CR C : Addr} {E : DXS} {W : WX} {pos p p1 apos : Pos} {x m : Str} {e : Expr} {es : List Expr} {t : DA} {k : Nat} {ps : List Str} {sp : DSp}
theorem d_static {j : Nat} {pl : Sem Bool} (S : StatM X.prog X.w X.K X.mg X.base CR k x C m ps sp) (tk : Takes X W) (hr : Room j X.A) (ha : PDA X (bs X CR E W) (e :: es) t) (hk : k ≤ j := by decide) (hg : Gl X x := by rfl) (hdb : (x == ("__debug__" : Str)) = false := by decide)
    (hst : starEach (e :: es) X.env = (false, eval e X.env) :: starEach es X.env := by rfl) (hpl : (backTo pos (starEach es X.env)).any (·.1) = false := by rfl)
    (ht : eval (.Call (.Attribute (.Name x p1) m apos) (e :: es) [] pos) X.env = (do
      let ov ← eval (.Name x p1) X.env
      standAt apos.atName
      let (f, first) ← holding [ov] (getMethod ov m pl)
      callWith pos f first (backTo pos (starEach (e :: es) X.env)) (backToKw pos (keywordEach [] X.env))) := by rfl) : PD X (bs X CR E W) (.Call (.Attribute (.Name x p1) m apos) (e :: es) [] pos) (dCallX sp E t) := by
  obtain ⟨q, f, fd, rest, hf, hp, hkp, F, hb⟩ := S.ex
  refine ⟨fun pins s σ H Q I h => ?_⟩
  obtain ⟨P, δ, M, Qd, hS, g, xl, w, kk⟩ := h
  refine PySem.W.methodCall_KW (pl := pl) (ld_glob I hg S.g ?_ hdb) ht
  refine PySem.W.method_cls I.kIn S.ga (PySem.W.cls_bind I.kIn S.rd hf (wpAny_call (PySem.W.sm_get (s := { s with toks := s.toks + 1 }) I.kIn hp (PySem.W.handed_on rfl ?_))))
  have I1 := I.tok (s.toks + 1)
  refine PySem.W.callWith_K (first := []) (h₀ := X.base) I1.ok.mod.kin hkp (thn (ha.run pos pins _ σ H (fun vs H2 => ∃ ds M2, Fz ⟨X.K, CR, P⟩ H M H2 M2 ∧ Good ⟨X.K, CR, P⟩ H2 M2 ∧ Reps ⟨X.K, CR, P⟩ H2 M2 ds vs ∧ sp ds M2 Qd fun C ns fs M' => E C ns fs δ M') I1 ⟨P, δ, M, _, hS, g, xl, w, fun vs H2 ds M2 z2 g2 rs q2 => ⟨ds, M2, z2, g2, rs, q2⟩⟩) fun us s2 ⟨vs, H2, I2, r, ds, M2, z2, g2, rs, q2⟩ => ⟨I2.kIn, ?_⟩) hst hpl
  refine run_fnS (E := fun σ c d H' => W c d σ H') (us := us) (vs := vs) F (hr.mono hk) hb (passAt tk σ) I2 r ?_
  exact ⟨P, ds, M2, Qd, _, rs, g2, q2, fun v H' l => kk v H' (l.trans z2), lfx_w (hS.mono z2) (xl.trans z2)⟩
end
def statB (K : PySem.W.Frag) (x m : Str) : Bool := PySem.W.readsIn K (He.ga K x) (.type "type") && (He5.wrapB K (He.ga K x) "staticmethod" "staticmethod.__get__" m && PySem.W.keepIn K (.ref (He5.wf K (He.ga K x) "staticmethod" m)))
theorem statM_of {P : Program} {w : World} {K : PySem.W.Frag} {mg : Str → Option Value} {base : Heap} {CR : Addr} {k : Nat} {x m qual nm : Str} {ps : List Str} {sp : DSp} {st : Stmt} {fd : FuncData} (c : statB K x m = true) (g : mg x = some (.ref (He.ga K x)))
    (F : FunD K nm qual (defArgs st) (defBody st) (defScope st) [] [] (He5.wf K (He.ga K x) "staticmethod" m) fd) (ok : FnOk P w K mg base (L2.CX P w) k (He5.wf K (He.ga K x) "staticmethod" m) fd ps (lSp K CR sp))
    (h : ∀ (kV doc pm : Value) (an : Option Addr) (cdv ct : Value) (us : List Value), us.length = ps.length → bindArgs (PySem.W.fnOf nm qual (defArgs st) (defBody st) (defScope st) .none kV doc pm an cdv ct) ⟨us, []⟩ = pure (ps.zip us)) : StatM P w K mg base CR k x (He.ga K x) m ps sp := by
  obtain ⟨c1, c⟩ := He.ba c
  obtain ⟨c2, c3⟩ := He.ba c
  obtain ⟨h1, rest, h2⟩ := He5.wrapB_ok c2
  refine ⟨g, c1, ?_, _, _, fd, rest, h1, h2, c3, ok, F.bindsN h⟩
  unfold PySem.W.readsIn at c1
  obtain ⟨h, _⟩ := He.ba c1
  obtain ⟨h, _⟩ := He.ba h
  obtain ⟨h, h3⟩ := He.ba h
  obtain ⟨_, h2⟩ := He.ba h
  unfold PySem.W.specialIn
  rw [beq_iff_eq.mp h2, Option.bind_some]
  exact beq_iff_eq.mp h3
/-! ### the hook with defs at any place -/
def obsE (ck : PySem.W.Frag → Bool) (fa : List He.Fa) (fn : List He.DefD) (fs : List He5.DefA) (K : PySem.W.Frag) : He.AlD := (ck K && ((He.obsD fa fn K).1 && fs.all fun d => d.ok K), (He.obsD fa fn K).2 ++ fs.map fun d => He5.fnA K (d.at_ K))
def valE (fn : List He.DefD) (fs : List He5.DefA) : He.AlD := (true, (He.valD fn).2 ++ fs.map He5.DefA.val)
def obsEG (n : Nat) (ck : PySem.W.Frag → Bool) (fa : List He.Fa) (fn : List He.DefD) (fs : List He5.DefA) (g : Addr → Option Obj) : He.AlD := obsE ck fa fn fs (He.frG g (He.asD g n ++ [cStatics, sysModules]))
def SaysE (ck : PySem.W.Frag → Bool) (fa : List He.Fa) (fn : List He.DefD) (fs : List He5.DefA) (K : PySem.W.Frag) : Prop := (ck K = true ∧ He.SaysD fa fn K) ∧ He5.SaysA [] fs K
theorem obsE_ok {ck : PySem.W.Frag → Bool} {fa : List He.Fa} {fn : List He.DefD} {fs : List He5.DefA} {K : PySem.W.Frag} (e : obsE ck fa fn fs K = valE fn fs) : SaysE ck fa fn fs K := by
  have e1 : (ck K && ((He.obsD fa fn K).1 && fs.all fun d => d.ok K)) = true := congrArg (fun z : He.AlD => z.1) e
  have e2 : (He.obsD fa fn K).2 ++ fs.map (fun d => He5.fnA K (d.at_ K)) = (He.valD fn).2 ++ fs.map He5.DefA.val := congrArg (fun z : He.AlD => z.2) e
  obtain ⟨a, b⟩ := He.ba e1
  obtain ⟨b1, b2⟩ := He.ba b
  have hl : (fs.map fun d => He5.fnA K (d.at_ K)).length = (fs.map He5.DefA.val).length := by rw [List.length_map, List.length_map]
  obtain ⟨p1, p2⟩ := List.append_inj' e2 hl
  refine ⟨⟨a, Prod.ext b1 p1⟩, ?_⟩
  show He5.obsA [] fs K = He5.valA fs
  have hh : (He5.obsA [] fs K).1 = true := by
    show (true && fs.all fun d => d.ok K) = true
    rw [b2]; rfl
  exact Prod.ext hh p2
def hookE (n : Nat) (ck : PySem.W.Frag → Bool) (fa : List He.Fa) (fn : List He.DefD) (fs : List He5.DefA) : PySem.W.Hook where
  α := He.AlD
  obs s := obsEG n ck fa fn fs s.heap.get?
  val _ := valE fn fs
  says _ h := ∃ K : PySem.W.Frag, K.In h ∧ SaysE ck fa fn fs K
  of _ _ e := ⟨_, He.frG_in, obsE_ok e⟩
  keeps _ _ _ := fun ⟨K, hK, c⟩ k => ⟨K, PySem.W.Frag.In.keeps hK k, c⟩
theorem obsEG_eq {n : Nat} {ck : PySem.W.Frag → Bool} {fa : List He.Fa} {fn : List He.DefD} {fs : List He5.DefA} {g : Addr → Option Obj} {s : Shared} (h : ∀ a, g a = s.heap.get? a) : obsEG n ck fa fn fs g = (hookE n ck fa fn fs).obs s := by
  have : g = s.heap.get? := funext h
  subst this; rfl
def w_Ratio___init__ (CR : Addr) : DSt :=
  (dSeq (dIf (dTst (dOp rEqP (dVar 2) (dC (.int 0))))
  dNever
  dNext)
  (dSeq (dSet 3 (dCB rGcdD (dCons (dVar 1) (dCons (dVar 2) dNil))))
  (dSeq (dIf (dTst (dOp rLt (dVar 2) (dC (.int 0))))
  (dSet 3 (dUn rNeg (dVar 3)))
  dNext)
  (dSeq (dFldSet (· = CR) "top" (dVar 0) (dOp rFdivB (dVar 1) (dVar 3)))
  (dFldSet (· = CR) "bottom" (dVar 0) (dOp rFdivB (dVar 2) (dVar 3)))))))
theorem rd_Ratio___init__ (CR : Addr) (ds M Q E) (h : sp_init CR ds M Q E) : w_Ratio___init__ CR { nx := fun _ M' => Q .non M', rt := Q } (startD 4 ds) M := by
  obtain ⟨p, a, b, rfl, hM, hb, hz, hq⟩ := h
  have cf : ∀ x : Int, CFb x (comm a b) := fun x => comm_ne hb
  have tail : (dSeq (dFldSet (· = CR) "top" (dVar 0) (dOp rFdivB (dVar 1) (dVar 3))) (dFldSet (· = CR) "bottom" (dVar 0) (dOp rFdivB (dVar 2) (dVar 3)))) { nx := fun _ M' => Q .non M', rt := Q } [some (.ref p), some (.int a), some (.int b), some (.int (comm a b))] M := by
    refine ⟨_, rfl, _, rfl, cf a, _, rfl, p, CR, [], [], _, _, rfl, hM, rfl, by decide, rfl, .new (by simp), ?_⟩
    refine ⟨_, rfl, _, rfl, cf b, _, rfl, p, CR, _, _, _, _, rfl, mput_same, rfl, by decide, rfl, .new (by decide), ?_⟩
    rw [mput_mput]
    show Q .non (mput M p (.ins CR ["top", "bottom"] [.int (a.fdiv (comm a b)), .int (b.fdiv (comm a b))]))
    rw [init_num hb, init_den hb]
    exact hq
  refine ⟨_, rfl, .inl ⟨rfl, rfl, fun k hk => ⟨k, rfl, ite_b (fun h1 => ?_) (fun _ => ?_)⟩⟩⟩
  · have := hk.mp h1
    injection this with h2
    exact absurd h2 hb
  · refine ⟨_, rfl, _, rfl, a, b, rfl, _, rfl, trivial, _, rfl, ite_d (fun hn => ?_) (fun hp => ?_)⟩
    · have e : comm a b = -((Nat.gcd a.natAbs b.natAbs : Nat) : Int) := if_pos hn
      rw [e] at tail
      exact ⟨_, rfl, tail⟩
    · have e : comm a b = ((Nat.gcd a.natAbs b.natAbs : Nat) : Int) := if_neg hp
      rw [e] at tail
      exact tail
theorem na {n m : Nat} (h : n ≤ 2 ^ m) : ((n : Nat) : Int).natAbs ≤ 2 ^ m := by rw [Int.natAbs_natCast]; exact h
theorem sm_nd {p q : Rat} (hp : Sm p) (hq : Sm q) : IntMulOk p.num q.den := mulS (n := 16000000) (m := 16000000) hp.1 (na hq.2)
theorem sm_nn {p q : Rat} (hp : Sm p) (hq : Sm q) : IntMulOk p.num q.num := mulS (n := 16000000) (m := 16000000) hp.1 hq.1
theorem sm_dd {p q : Rat} (hp : Sm p) (hq : Sm q) : IntMulOk (p.den : Int) q.den := mulS (n := 16000000) (m := 16000000) (na hp.2) (na hq.2)
theorem sm_dn {p q : Rat} (hp : Sm p) (hq : Sm q) : IntMulOk (p.den : Int) q.num := mulS (n := 16000000) (m := 16000000) (na hp.2) hq.1
theorem sm_z {p q : Rat} (hp : Sm p) (hq : Sm q) : szB ((p.den : Int) * q.den) := trivial
theorem sm_zn {p q : Rat} (hp : Sm p) (hq : Sm q) : szB ((p.den : Int) * q.num) := trivial
theorem sm_z1 {p : Rat} (hp : Sm p) : szB (p.den : Int) := trivial
theorem dd_ne (p q : Rat) : (p.den : Int) * q.den ≠ 0 := Int.mul_ne_zero (dne p) (dne q)
def w_Ratio___add__ : DSt :=
  (dRet (dMk (dCons (dOp rAddP (dOp rMulI (dTop (dVar 0)) (dBot (dVar 1))) (dOp rMulI (dTop (dVar 1)) (dBot (dVar 0)))) (dCons (dOp rMulI (dBot (dVar 0)) (dBot (dVar 1))) dNil))))
theorem rd_Ratio___add__ (ds M Q E) (h : sp_add ds M Q E) : w_Ratio___add__ { nx := fun _ M' => Q .non M', rt := Q } (startD 2 ds) M := by
  obtain ⟨p, q, rfl, hp, hq, h⟩ := h
  refine ⟨_, rfl, p, rfl, _, rfl, q, rfl, sm_nd hp hq, _, rfl, q, rfl, _, rfl, p, rfl, sm_nd hq hp, _, rfl, p, rfl, _, rfl, q, rfl, sm_dd hp hq, dd_ne p q, sm_z hp hq, ?_⟩
  rw [q_add]
  exact h
def w_Ratio___sub__ : DSt :=
  (dRet (dMk (dCons (dOp rSubI (dOp rMulI (dTop (dVar 0)) (dBot (dVar 1))) (dOp rMulI (dTop (dVar 1)) (dBot (dVar 0)))) (dCons (dOp rMulI (dBot (dVar 0)) (dBot (dVar 1))) dNil))))
theorem rd_Ratio___sub__ (ds M Q E) (h : sp_sub ds M Q E) : w_Ratio___sub__ { nx := fun _ M' => Q .non M', rt := Q } (startD 2 ds) M := by
  obtain ⟨p, q, rfl, hp, hq, h⟩ := h
  refine ⟨_, rfl, p, rfl, _, rfl, q, rfl, sm_nd hp hq, _, rfl, q, rfl, _, rfl, p, rfl, sm_nd hq hp, trivial, _, rfl, p, rfl, _, rfl, q, rfl, sm_dd hp hq, dd_ne p q, sm_z hp hq, ?_⟩
  rw [q_sub]
  exact h
def w_Ratio___mul__ : DSt :=
  (dRet (dMk (dCons (dOp rMulI (dTop (dVar 0)) (dTop (dVar 1))) (dCons (dOp rMulI (dBot (dVar 0)) (dBot (dVar 1))) dNil))))
theorem rd_Ratio___mul__ (ds M Q E) (h : sp_mul ds M Q E) : w_Ratio___mul__ { nx := fun _ M' => Q .non M', rt := Q } (startD 2 ds) M := by
  obtain ⟨p, q, rfl, hp, hq, h⟩ := h
  refine ⟨_, rfl, p, rfl, _, rfl, q, rfl, sm_nn hp hq, _, rfl, p, rfl, _, rfl, q, rfl, sm_dd hp hq, dd_ne p q, sm_z hp hq, ?_⟩
  rw [q_mul]
  exact h
def w_Ratio___neg__ : DSt :=
  (dRet (dMk (dCons (dUn rNeg (dTop (dVar 0))) (dCons (dBot (dVar 0)) dNil))))
theorem rd_Ratio___neg__ (ds M Q E) (h : sp_neg ds M Q E) : w_Ratio___neg__ { nx := fun _ M' => Q .non M', rt := Q } (startD 1 ds) M := by
  obtain ⟨p, rfl, hp, h⟩ := h
  refine ⟨_, rfl, p, rfl, _, rfl, p, rfl, dne p, sm_z1 hp, ?_⟩
  rw [q_neg]
  exact h
def w_Ratio___eq__ : DSt :=
  (dRet (dAndV (dIsR (dVar 1)) (dAndV (dOp rEqP (dTop (dVar 0)) (dTop (dVar 1))) (dOp rEqP (dBot (dVar 0)) (dBot (dVar 1))))))
theorem rd_Ratio___eq__ (ds M Q E) (h : sp_eq ds M Q E) : w_Ratio___eq__ { nx := fun _ M' => Q .non M', rt := Q } (startD 2 ds) M := by
  obtain ⟨p, d, r, rfl, he, h⟩ := h
  have fl : ∀ n, tyD d M = some n → n ∈ tyNs → Q (.bl false) M → w_Ratio___eq__ { nx := fun _ M' => Q .non M', rt := Q } (startD 2 [.rat p, d]) M := fun n hn hm q => by
    refine ⟨_, rfl, ?_⟩
    cases d with
    | rat q => cases hn
    | _ => exact ⟨n, hn, hm, false, rfl, ite_f q⟩
  cases d with
  | int i => cases he; exact fl _ rfl (by decide) h
  | str i => cases he; exact fl _ rfl (by decide) h
  | non => cases he; exact fl _ rfl (by decide) h
  | bl i => cases he; exact fl _ rfl (by decide) h
  | ref _ => cases he
  | ty _ => cases he
  | tup _ => cases he
  | lst _ => cases he
  | scr _ => cases he
  | obj _ _ _ => cases he
  | rat q =>
  injection he with he
  subst he
  have no : p ≠ q → Q (.bl false) M := fun n => by rw [decide_eq_false n] at h; exact h
  refine ⟨_, rfl, true, rfl, ite_t ⟨_, rfl, p, rfl, _, rfl, q, rfl, .inl ⟨rfl, rfl, fun k hk => ⟨k, rfl, ite_b (fun h1 => ?_) (fun h1 => ?_)⟩⟩⟩⟩
  · have e1 := hk.mp h1
    injection e1 with e1
    refine ⟨_, rfl, p, rfl, _, rfl, q, rfl, .inl ⟨rfl, rfl, fun j hj => ?_⟩⟩
    cases j with
    | true =>
      have e2 := hj.mp rfl
      injection e2 with e2
      rw [decide_eq_true ((q_eq p q).mpr ⟨e1, e2⟩)] at h
      exact h
    | false => exact no fun e => absurd (hj.mpr (by rw [e])) Bool.false_ne_true
  · exact no fun e => by
      rw [hk.mpr (by rw [e])] at h1
      cases h1
def w_Ratio___lt__ : DSt :=
  (dRet (dOp rLt (dOp rMulI (dTop (dVar 0)) (dBot (dVar 1))) (dOp rMulI (dTop (dVar 1)) (dBot (dVar 0)))))
theorem rd_Ratio___lt__ (ds M Q E) (h : sp_lt ds M Q E) : w_Ratio___lt__ { nx := fun _ M' => Q .non M', rt := Q } (startD 2 ds) M := by
  obtain ⟨p, q, rfl, hp, hq, h⟩ := h
  refine ⟨_, rfl, p, rfl, _, rfl, q, rfl, sm_nd hp hq, _, rfl, q, rfl, _, rfl, p, rfl, sm_nd hq hp, trivial, ?_⟩
  have e : decide (p.num * (q.den : Int) < q.num * (p.den : Int)) = decide (p < q) := decide_eq_decide.mpr (Rat.lt_iff p q).symm
  show Q (.bl (decide (p.num * (q.den : Int) < q.num * (p.den : Int)))) M
  rw [e]
  exact h
def w_Ratio___le__ : DSt :=
  (dRet (dOp rLe (dOp rMulI (dTop (dVar 0)) (dBot (dVar 1))) (dOp rMulI (dTop (dVar 1)) (dBot (dVar 0)))))
theorem rd_Ratio___le__ (ds M Q E) (h : sp_le ds M Q E) : w_Ratio___le__ { nx := fun _ M' => Q .non M', rt := Q } (startD 2 ds) M := by
  obtain ⟨p, q, rfl, hp, hq, h⟩ := h
  refine ⟨_, rfl, p, rfl, _, rfl, q, rfl, sm_nd hp hq, _, rfl, q, rfl, _, rfl, p, rfl, sm_nd hq hp, trivial, ?_⟩
  have e : decide (p.num * (q.den : Int) ≤ q.num * (p.den : Int)) = decide (p ≤ q) := decide_eq_decide.mpr (Rat.le_iff p q).symm
  show Q (.bl (decide (p.num * (q.den : Int) ≤ q.num * (p.den : Int)))) M
  rw [e]
  exact h
def w_Ratio___gt__ : DSt :=
  (dRet (dOp rGt (dOp rMulI (dTop (dVar 0)) (dBot (dVar 1))) (dOp rMulI (dTop (dVar 1)) (dBot (dVar 0)))))
theorem rd_Ratio___gt__ (ds M Q E) (h : sp_gt ds M Q E) : w_Ratio___gt__ { nx := fun _ M' => Q .non M', rt := Q } (startD 2 ds) M := by
  obtain ⟨p, q, rfl, hp, hq, h⟩ := h
  refine ⟨_, rfl, p, rfl, _, rfl, q, rfl, sm_nd hp hq, _, rfl, q, rfl, _, rfl, p, rfl, sm_nd hq hp, trivial, ?_⟩
  have e : decide (p.num * (q.den : Int) > q.num * (p.den : Int)) = decide (q < p) := decide_eq_decide.mpr (Rat.lt_iff q p).symm
  show Q (.bl (decide (p.num * (q.den : Int) > q.num * (p.den : Int)))) M
  rw [e]
  exact h
def w_Ratio___ge__ : DSt :=
  (dRet (dOp rGe (dOp rMulI (dTop (dVar 0)) (dBot (dVar 1))) (dOp rMulI (dTop (dVar 1)) (dBot (dVar 0)))))
theorem rd_Ratio___ge__ (ds M Q E) (h : sp_ge ds M Q E) : w_Ratio___ge__ { nx := fun _ M' => Q .non M', rt := Q } (startD 2 ds) M := by
  obtain ⟨p, q, rfl, hp, hq, h⟩ := h
  refine ⟨_, rfl, p, rfl, _, rfl, q, rfl, sm_nd hp hq, _, rfl, q, rfl, _, rfl, p, rfl, sm_nd hq hp, trivial, ?_⟩
  have e : decide (p.num * (q.den : Int) ≥ q.num * (p.den : Int)) = decide (q ≤ p) := decide_eq_decide.mpr (Rat.le_iff q p).symm
  show Q (.bl (decide (p.num * (q.den : Int) ≥ q.num * (p.den : Int)))) M
  rw [e]
  exact h
def w_Ratio___abs__ : DSt :=
  (dRet (dMk (dCons (dCB rAbsI (dCons (dTop (dVar 0)) dNil)) (dCons (dBot (dVar 0)) dNil))))
theorem rd_Ratio___abs__ (ds M Q E) (h : sp_abs ds M Q E) : w_Ratio___abs__ { nx := fun _ M' => Q .non M', rt := Q } (startD 1 ds) M := by
  obtain ⟨p, rfl, hp, h⟩ := h
  refine ⟨_, rfl, p, rfl, p.num, rfl, _, rfl, p, rfl, dne p, sm_z1 hp, ?_⟩
  have e : (if p.num < 0 then -p.num else p.num) = (p.num.natAbs : Int) := by split <;> omega
  rw [e, q_abs]
  exact h
/-- a fraction as the law keeps it -/
def pairD (q : Rat) : D := .tup [.int q.num, .int q.den]
theorem euclid_half {x y : Int} (hy : 0 < y) (hyx : y < x) : 2 * (x % y) < x := by
  have h1 := Int.emod_lt_of_pos x hy
  by_cases h : 2 * y ≤ x
  · omega
  · have : x % y = x - y := by
      have e : x = (x - y) + y * 1 := by omega
      have h2 : (x - y) % y = x - y := Int.emod_eq_of_lt (by omega) (by omega)
      rw [e, Int.add_mul_emod_self_left, h2]; omega
    omega
/-- steps enough for Euclid's way -/
def Fuel (n : Nat) (x y : Int) : Prop := (∃ b : Nat, y < 2 ^ b ∧ 2 * b ≤ n) ∨ ∃ b : Nat, y < x ∧ x < 2 ^ b ∧ 2 * b ≤ n + 1
theorem fuel_end {x y : Int} (h0 : 0 ≤ y) (h : Fuel 0 x y) : y = 0 := by
  rcases h with ⟨b, h1, h2⟩ | ⟨b, h1, h2, h3⟩
  · obtain rfl : b = 0 := by omega
    have : y < 1 := by simpa using h1
    omega
  · obtain rfl : b = 0 := by omega
    have : x < 1 := by simpa using h2
    omega
theorem fuel_step {n : Nat} {x y : Int} (h0 : 0 < y) (h : Fuel (n + 1) x y) : Fuel n y (x % y) := by
  have hm := Int.emod_lt_of_pos x h0
  rcases h with ⟨b, h1, h2⟩ | ⟨b, h1, h2, h3⟩
  · exact .inr ⟨b, hm, h1, by omega⟩
  · cases b with
    | zero =>
      have : x < 1 := by simpa using h2
      omega
    | succ b =>
      have := euclid_half h0 h1
      have e : (2 : Int) ^ (b + 1) = 2 ^ b * 2 := Int.pow_succ ..
      exact .inl ⟨b, by omega, by omega⟩
theorem gcd_step {x y : Int} (h0 : 0 ≤ x) (h1 : 0 ≤ y) : Nat.gcd y.natAbs (x % y).natAbs = Nat.gcd x.natAbs y.natAbs := by
  rw [Int.natAbs_emod_of_nonneg h0, Nat.gcd_comm x.natAbs]
  exact (Nat.gcd_comm _ _).trans (Nat.gcd_rec _ _).symm
open TL NumText in
/-! texts of fractions -/
theorem numL_of {cs : List Nat} (h : NumText.AllDigits cs) (h0 : cs ≠ []) (h1 : cs.length = 1 ∨ ∃ c r, cs = c :: r ∧ 49 ≤ c) : TL.numL (NumText.digitsVal cs) = cs := by
  have hl : ∃ n, cs.length = n + 1 := ⟨cs.length - 1, by have := List.length_pos_iff.mpr h0; omega⟩
  obtain ⟨n, hn⟩ := hl
  unfold TL.numL
  rw [NumText.toDigits_digitsVal n cs hn h (h1.imp (by omega) id), List.map_map]
  conv => rhs; rw [← List.map_id cs]
  refine List.map_congr_left fun c hc => ?_
  have := h c hc
  show (Char.ofNat c).toNat = c
  exact (by decide : ∀ d : Nat, d < 58 → (Char.ofNat d).toNat = d) c (by omega)
/-- a word of at most nine digits -/
def okW (cs : List Nat) : Bool := decide (1 ≤ cs.length ∧ cs.length ≤ 9) && (!(decide (cs.head? = some 48) && decide (1 < cs.length)) && cs.all fun c => decide (48 ≤ c ∧ c ≤ 57))
def digN (cs : List Nat) : Option Nat := if okW cs = true then some (NumText.digitsVal cs) else none
theorem okW_iff {cs : List Nat} : okW cs = true ↔ (1 ≤ cs.length ∧ cs.length ≤ 9) ∧ ¬ (cs.head? = some 48 ∧ 1 < cs.length) ∧ NumText.AllDigits cs := by
  unfold okW
  rw [Bool.and_eq_true, Bool.and_eq_true, Bool.not_eq_true', Bool.and_eq_false_iff, List.all_eq_true, decide_eq_true_iff]
  constructor
  · rintro ⟨a, b, c⟩
    refine ⟨a, fun ⟨z1, z2⟩ => ?_, fun d hd => of_decide_eq_true (c d hd)⟩
    rcases b with b | b
    · exact of_decide_eq_false b z1
    · exact of_decide_eq_false b z2
  · rintro ⟨a, b, c⟩
    refine ⟨a, ?_, fun d hd => decide_eq_true (c d hd)⟩
    by_cases z : cs.head? = some 48
    · exact .inr (decide_eq_false fun z2 => b ⟨z, z2⟩)
    · exact .inl (decide_eq_false z)
theorem val_lt {r : List Nat} (h : NumText.AllDigits r) : NumText.digitsVal r < 10 ^ r.length := by
  have key : ∀ (l : List Nat) (a : Nat), NumText.AllDigits l → l.foldl (fun acc c => acc * 10 + (c - 48)) a < (a + 1) * 10 ^ l.length := by
    intro l
    induction l with
    | nil => intro a _; simp
    | cons c l ih =>
      intro a h
      have hc := h c List.mem_cons_self
      have := ih (a * 10 + (c - 48)) fun d hd => h d (List.mem_cons_of_mem _ hd)
      rw [List.foldl_cons]
      refine Nat.lt_of_lt_of_le this ?_
      rw [List.length_cons, Nat.pow_succ, Nat.mul_comm (10 ^ l.length), ← Nat.mul_assoc]
      exact Nat.mul_le_mul_right _ (by omega)
  have := key r 0 h
  rw [Nat.zero_add, Nat.one_mul] at this
  exact this
theorem digN_iff {cs : List Nat} {n : Nat} : digN cs = some n ↔ n < 1000000000 ∧ cs = TL.numL n := by
  constructor
  · intro h
    unfold digN at h
    split at h
    · rename_i ok
      obtain ⟨⟨h1, h9⟩, h0, hd⟩ := okW_iff.mp ok
      cases h
      have e : TL.numL (NumText.digitsVal cs) = cs := numL_of hd (fun z => by rw [z] at h1; simp at h1) (by
        cases cs with
        | nil => simp at h1
        | cons c r =>
          by_cases hr : r = []
          · exact .inl (by rw [hr]; rfl)
          · refine .inr ⟨c, r, rfl, ?_⟩
            have hc := hd c List.mem_cons_self
            have : c ≠ 48 := fun z => h0 ⟨by rw [z]; rfl, by rw [List.length_cons]; have := List.length_pos_iff.mpr hr; omega⟩
            omega)
      refine ⟨?_, e.symm⟩
      have hl : (TL.numL (NumText.digitsVal cs)).length ≤ 9 := by rw [e]; exact h9
      by_cases hb : NumText.digitsVal cs < 1000000000
      · exact hb
      · exfalso
        have := PyProof.Rows.digits10_ge (k := 9) (n := NumText.digitsVal cs) (by omega)
        unfold TL.numL at hl
        rw [List.length_map] at hl
        omega
    · cases h
  · rintro ⟨hn, rfl⟩
    unfold digN
    have hd := TL.numL_digits n
    have ok : okW (TL.numL n) = true := okW_iff.mpr ⟨⟨List.length_pos_iff.mpr (TL.numL_ne n), TL.numL_len (by decide) (Nat.lt_of_lt_of_le hn (by decide))⟩, fun ⟨z1, z2⟩ => ?_, hd⟩
    · rw [if_pos ok, TL.numL_val]
    · cases e : TL.numL n with
      | nil => rw [e] at z1; cases z1
      | cons c r =>
        rw [e] at z1 z2
        cases z1
        have hv := TL.numL_val n
        rw [e, NumText.digitsVal_zero] at hv
        have hr : r ≠ [] := fun z => by rw [z] at z2; simp at z2
        have hdr : NumText.AllDigits r := fun d hd2 => hd d (by rw [e]; exact List.mem_cons_of_mem _ hd2)
        have l1 : (TL.numL n).length = r.length + 1 := by rw [e]; rfl
        have l2 : n < 10 ^ r.length := by rw [← hv]; exact val_lt hdr
        have l3 : (TL.numL n).length ≤ r.length := TL.numL_len (List.length_pos_iff.mpr hr) l2
        omega
/-- cut at each "/" -/
def spC : List Nat → List (List Nat)
  | [] => [[]]
  | x :: xs => if x = 47 then [] :: spC xs else match spC xs with
    | [] => [[x]]
    | p :: ps => (x :: p) :: ps
theorem spC_ne : ∀ l : List Nat, spC l ≠ []
  | [] => by simp [spC]
  | x :: xs => by
    unfold spC
    split
    · simp
    · split <;> simp
theorem spl_spC : ∀ (l acc : List Nat), ∃ p ps, spC l = p :: ps ∧ TL.spl [47] 0 acc l = (acc ++ p) :: ps
  | [], acc => ⟨[], [], rfl, by rw [TL.spl_nil, List.append_nil]⟩
  | x :: xs, acc => by
    by_cases h : x = 47
    · obtain ⟨p, ps, e1, e2⟩ := spl_spC xs []
      refine ⟨[], p :: ps, by unfold spC; rw [if_pos h, e1], ?_⟩
      rw [TL.spl_hit (by rw [h]; rfl)]
      show acc :: TL.spl [47] 0 [] xs = _
      rw [e2, List.append_nil, List.nil_append]
    · obtain ⟨p, ps, e1, e2⟩ := spl_spC xs (acc ++ [x])
      refine ⟨x :: p, ps, by unfold spC; rw [if_neg h, e1], ?_⟩
      rw [TL.spl_miss (TL.pre_of_head [] xs h), e2, List.append_assoc]; rfl
def mkS (l : List Nat) : Str := ⟨l.toArray⟩
theorem split_eq (z : Str) : Txt.split z "/" = (spC (TL.tl z)).map mkS := by
  refine TL.map_tl_inj ?_
  rw [TL.split_spl z "/" (by decide +kernel) (TL.kind_ok (by decide +kernel))]
  obtain ⟨p, ps, e1, e2⟩ := spl_spC (TL.tl z) []
  show TL.spl [47] 0 [] (TL.tl z) = _
  rw [e2, e1, List.nil_append, List.map_map]
  conv => lhs; rw [← List.map_id (p :: ps)]
  rfl
theorem spC_free {l : List Nat} (h : 47 ∉ l) : spC l = [l] := by
  induction l with
  | nil => rfl
  | cons x xs ih =>
    unfold spC
    rw [if_neg (fun (e : x = 47) => h (by rw [e]; exact List.mem_cons_self)), ih fun m => h (List.mem_cons_of_mem _ m)]
theorem spC_two {a b : List Nat} (ha : 47 ∉ a) (hb : 47 ∉ b) : spC (a ++ 47 :: b) = [a, b] := by
  induction a with
  | nil => show spC (47 :: b) = _; unfold spC; rw [if_pos rfl, spC_free hb]
  | cons x xs ih =>
    show spC (x :: (xs ++ 47 :: b)) = _
    unfold spC
    rw [if_neg (fun (e : x = 47) => ha (by rw [e]; exact List.mem_cons_self)), ih fun m => ha (List.mem_cons_of_mem _ m)]
theorem spC_one_back {l p : List Nat} (h : spC l = [p]) : l = p := by
  induction l generalizing p with
  | nil => cases h; rfl
  | cons x xs ih =>
    unfold spC at h
    split at h
    · injection h with h1 h2; exact absurd h2 (spC_ne xs)
    · split at h
      · rename_i e; exact absurd e (spC_ne xs)
      · rename_i q qs e
        injection h with h1 h2
        subst h2
        rw [← h1, ih e]
theorem spC_two_back {l p r : List Nat} (h : spC l = [p, r]) : l = p ++ 47 :: r := by
  induction l generalizing p with
  | nil => cases h
  | cons x xs ih =>
    unfold spC at h
    split at h
    · rename_i e
      injection h with h1 h2
      rw [← h1, e, spC_one_back h2]; rfl
    · split at h
      · rename_i e; exact absurd e (spC_ne xs)
      · rename_i q qs e
        injection h with h1 h2
        subst h2
        rw [← h1, ih e]; rfl
/-- the written form -/
def sgL (i : Int) : List Nat := if i < 0 then 45 :: TL.numL i.natAbs else TL.numL i.natAbs
def ratL (q : Rat) : List Nat := sgL q.num ++ if q.den = 1 then [] else 47 :: TL.numL q.den
theorem tl_int (i : Int) : TL.tl (Str.ofString (toString i)) = sgL i := by
  unfold sgL
  by_cases h : i < 0
  · rw [if_pos h]
    obtain ⟨n, rfl⟩ : ∃ n : Nat, i = Int.negSucc n := by
      cases i with
      | ofNat n => exact absurd h (by simp)
      | negSucc n => exact ⟨n, rfl⟩
    rw [TL.tl_ofString]
    show (("-" ++ Nat.repr (n + 1)).toList).map Char.toNat = _
    rw [String.toList_append, List.map_append]
    have e := TL.tl_num (n + 1)
    rw [TL.tl_ofString] at e
    have e' : (Nat.repr (n + 1)).toList.map Char.toNat = TL.numL (n + 1) := e
    rw [e']
    rfl
  · rw [if_neg h]
    obtain ⟨n, rfl⟩ : ∃ n : Nat, i = n := ⟨i.toNat, by omega⟩
    exact TL.tl_num n
theorem cut_dropN {xs : List D} {k : Nat} (h : k ≤ xs.length) : cutD xs (some (k : Int)) none = xs.drop k := by
  unfold cutD
  rw [HT.sIx_none, HT.sIx_nat, Nat.min_eq_left h]
  exact List.take_of_length_le (by rw [List.length_drop]; exact Nat.le_refl _)
theorem lc_ofD {α : Type} {j : Nat} {chk : Mem → Prop} {te : DE} {δ : DS0} {M : Mem} {Q : List D → Mem → Prop} (g f : α → D) (P : α → Prop) (hc : chk M) (h : ∀ r (K : DK), P r → K (f r) M → te (δ.set j (some (g r))) M K) :
    ∀ (m : List α) (acc : List D), (∀ r, r ∈ m → P r) → acc.length + m.length ≤ sizeLine → Q (acc ++ m.map f) M → dLcL chk (gNm j) dYes te δ (m.map g) acc M Q
  | [], acc, _, _, q => ⟨hc, by simpa using q⟩
  | r :: m, acc, hp, hl, q => by
    refine ⟨hc, by rw [List.length_cons] at hl; omega, ?_⟩
    refine ite_t (B := dLcL chk (gNm j) dYes te δ (m.map g) acc M Q) (h r _ (hp r List.mem_cons_self) (lc_ofD g f P hc h m _ (fun y hy => hp y (List.mem_cons_of_mem _ hy)) ?_ ?_))
    · rw [List.length_append, List.length_singleton]; rw [List.length_cons] at hl; omega
    · rw [List.append_assoc]; exact q
def ratS (q : Rat) : Str := mkS (ratL q)
/-- a sign stands ahead -/
def hasM (L : List Nat) : Bool := decide (L.head? = some 45)
def strip (L : List Nat) : List Nat := if hasM L = true then L.tail else L
theorem strip_eq (L : List Nat) : L = if hasM L = true then 45 :: strip L else strip L := by
  unfold strip
  by_cases h : hasM L = true
  · rw [if_pos h, if_pos h]
    cases L with
    | nil => cases h
    | cons c r =>
      have : some c = some 45 := of_decide_eq_true h
      injection this with e
      rw [e]; rfl
  · rw [if_neg h, if_neg h]
theorem numL_head (n : Nat) (r : List Nat) : hasM (TL.numL n ++ r) = false := by
  cases e : TL.numL n with
  | nil => exact absurd e (TL.numL_ne n)
  | cons c s =>
    have := TL.numL_digits n c (by rw [e]; exact List.mem_cons_self)
    exact decide_eq_false fun (z : some c = some 45) => by injection z with z; omega
theorem hasM_sg (i : Int) (r : List Nat) : hasM (sgL i ++ r) = decide (i < 0) := by
  unfold sgL
  by_cases h : i < 0
  · rw [if_pos h, decide_eq_true h]; rfl
  · rw [if_neg h, decide_eq_false h]; exact numL_head _ r
theorem strip_sg (i : Int) (r : List Nat) : strip (sgL i ++ r) = TL.numL i.natAbs ++ r := by
  unfold strip
  rw [hasM_sg]
  unfold sgL
  by_cases h : i < 0
  · rw [if_pos h, decide_eq_true h, if_pos rfl]; rfl
  · rw [if_neg h, decide_eq_false h, if_neg (by decide)]
def sgn (b : Bool) (q : Rat) : Rat := match b with
  | true => -q
  | false => q
def fin (L : List Nat) (q : Rat) : Option Rat := if ratL (sgn (hasM L) q) = L then some (sgn (hasM L) q) else none
/-- what the program reads -/
def progR (L : List Nat) : Option Rat := match spC L with
  | [p] => (digN (strip p)).bind fun n => fin L ((n : Int) : Rat)
  | [p, r] => (digN (strip p)).bind fun n => (digN r).bind fun m => if m = 0 then none else fin L (Rat.divInt n m)
  | _ => none
/-- what the law reads -/
def lawR (L : List Nat) : Option Rat := match spC (strip L) with
  | [p] => (digN p).bind fun n => if (hasM L && decide (n = 0)) = true then none else some (sgn (hasM L) ((n : Int) : Rat))
  | [p, r] => (digN p).bind fun n => if (hasM L && decide (n = 0)) = true then none else (digN r).bind fun m => if (decide (m < 2) || !decide (Nat.gcd n m = 1)) = true then none else some (sgn (hasM L) (Rat.divInt n m))
  | _ => none
/-- a written form of at most nine digits -/
def Wr (L : List Nat) (q : Rat) : Prop := ratL q = L ∧ q.num.natAbs < 1000000000 ∧ q.den < 1000000000
theorem sg_free (i : Int) : 47 ∉ sgL i := by
  unfold sgL
  split
  · intro m
    rcases List.mem_cons.mp m with h | h
    · cases h
    · exact TL.numL_free (.inl (by decide)) h
  · exact TL.numL_free (.inl (by decide))
theorem den_int (i : Int) : ((i : Int) : Rat).den = 1 := Rat.den_intCast ..
theorem num_int (i : Int) : ((i : Int) : Rat).num = i := Rat.num_intCast ..
theorem signed_back (q : Rat) : sgn (decide (q.num < 0)) (Rat.divInt (q.num.natAbs : Int) q.den) = q := by
  by_cases h : q.num < 0
  · rw [decide_eq_true h]
    show -(Rat.divInt (q.num.natAbs : Int) q.den) = q
    rw [show ((q.num.natAbs : Nat) : Int) = -q.num by omega, q_neg, Rat.neg_neg]
  · rw [decide_eq_false h]
    show Rat.divInt (q.num.natAbs : Int) q.den = q
    rw [show ((q.num.natAbs : Nat) : Int) = q.num by omega]; exact Rat.num_divInt_den q
theorem fin_iff {L : List Nat} {q r : Rat} : fin L q = some r ↔ r = sgn (hasM L) q ∧ ratL r = L := by
  unfold fin
  constructor
  · intro h
    by_cases e : ratL (sgn (hasM L) q) = L
    · rw [if_pos e] at h; injection h with h; rw [← h]; exact ⟨rfl, e⟩
    · rw [if_neg e] at h; cases h
  · rintro ⟨rfl, h⟩
    rw [if_pos h]
theorem sgn_num (b : Bool) (q : Rat) : (sgn b q).num.natAbs = q.num.natAbs := by
  cases b
  · rfl
  · show (-q).num.natAbs = _
    rw [Rat.neg_num, Int.natAbs_neg]
theorem sgn_den (b : Bool) (q : Rat) : (sgn b q).den = q.den := by
  cases b
  · rfl
  · exact Rat.neg_den ..
theorem div_le {n m : Nat} (hm : m ≠ 0) : (Rat.divInt n m).num.natAbs ≤ n ∧ (Rat.divInt n m).den ≤ m := by
  have hb : (m : Int) ≠ 0 := by omega
  have e1 := init_num (a := n) hb
  have e2 := init_den (a := n) hb
  have c : comm (n : Int) (m : Int) = ((Nat.gcd n m : Nat) : Int) := by unfold comm; rw [if_neg (by omega)]; rfl
  rw [c] at e1 e2
  have g := Nat.gcd_pos_of_pos_right n (Nat.pos_of_ne_zero hm)
  rw [Int.fdiv_eq_ediv_of_nonneg _ (by omega), ← Int.natCast_ediv] at e1 e2
  have h1 := Nat.div_le_self n (Nat.gcd n m)
  have h2 := Nat.div_le_self m (Nat.gcd n m)
  refine ⟨?_, by omega⟩
  rw [← e1, Int.natAbs_natCast]; exact h1
theorem div_one {n m : Nat} (hm : m ≠ 0) (h : Nat.gcd n m = 1) : (Rat.divInt n m).num = n ∧ (Rat.divInt n m).den = m := by
  have hb : (m : Int) ≠ 0 := by omega
  have e1 := init_num (a := n) hb
  have e2 := init_den (a := n) hb
  have c : comm (n : Int) (m : Int) = ((Nat.gcd n m : Nat) : Int) := by unfold comm; rw [if_neg (by omega)]; rfl
  rw [c, h] at e1 e2
  rw [Int.fdiv_eq_ediv_of_nonneg _ (by omega)] at e1 e2
  have h1 : (n : Int) / ((1 : Nat) : Int) = n := by simp
  have h2 : (m : Int) / ((1 : Nat) : Int) = m := by simp
  rw [h1] at e1
  rw [h2] at e2
  omega
theorem wr_int {L : List Nat} {n : Nat} (hn : n < 1000000000) (h : ratL (sgn (hasM L) ((n : Int) : Rat)) = L) : Wr L (sgn (hasM L) ((n : Int) : Rat)) := ⟨h, by rw [sgn_num, num_int]; omega, by rw [sgn_den, den_int]; decide⟩
theorem progR_iff {L : List Nat} {q : Rat} : progR L = some q ↔ Wr L q := by
  constructor
  · intro h
    unfold progR at h
    split at h
    · obtain ⟨n, h1, h⟩ := Option.bind_eq_some_iff.mp h
      obtain ⟨e, h2⟩ := fin_iff.mp h
      rw [e] at h2 ⊢
      exact wr_int (digN_iff.mp h1).1 h2
    · obtain ⟨n, h1, h⟩ := Option.bind_eq_some_iff.mp h
      obtain ⟨m, h3, h⟩ := Option.bind_eq_some_iff.mp h
      by_cases hm : m = 0
      · rw [if_pos hm] at h; cases h
      · rw [if_neg hm] at h
        obtain ⟨e, h2⟩ := fin_iff.mp h
        have hn := (digN_iff.mp h1).1
        have hm2 := (digN_iff.mp h3).1
        obtain ⟨d1, d2⟩ := div_le (n := n) hm
        exact ⟨h2, by rw [e, sgn_num]; omega, by rw [e, sgn_den]; omega⟩
    · cases h
  · rintro ⟨rfl, hn, hd⟩
    have hb := signed_back q
    have es : strip (sgL q.num) = TL.numL q.num.natAbs := by have := strip_sg q.num []; rwa [List.append_nil, List.append_nil] at this
    by_cases e : q.den = 1
    · have eL : ratL q = sgL q.num ++ [] := by unfold ratL; rw [if_pos e]
      have eC : spC (ratL q) = [sgL q.num] := by rw [eL, List.append_nil]; exact spC_free (sg_free _)
      have hp : progR (ratL q) = (digN (strip (sgL q.num))).bind fun n => fin (ratL q) ((n : Int) : Rat) := by unfold progR; rw [eC]
      rw [hp, es, digN_iff.mpr ⟨hn, rfl⟩, Option.bind_some]
      refine fin_iff.mpr ⟨?_, rfl⟩
      rw [show hasM (ratL q) = decide (q.num < 0) by rw [eL, hasM_sg]]
      rw [e, show ((1 : Nat) : Int) = 1 from rfl, q_int] at hb
      exact hb.symm
    · have eL : ratL q = sgL q.num ++ 47 :: TL.numL q.den := by unfold ratL; rw [if_neg e]
      have eC : spC (ratL q) = [sgL q.num, TL.numL q.den] := by rw [eL]; exact spC_two (sg_free _) (TL.numL_free (.inl (by decide)))
      have hp : progR (ratL q) = (digN (strip (sgL q.num))).bind fun n => (digN (TL.numL q.den)).bind fun m => if m = 0 then none else fin (ratL q) (Rat.divInt n m) := by unfold progR; rw [eC]
      rw [hp, es, digN_iff.mpr ⟨hn, rfl⟩, Option.bind_some, digN_iff.mpr ⟨hd, rfl⟩, Option.bind_some, if_neg q.den_nz]
      refine fin_iff.mpr ⟨?_, rfl⟩
      rw [show hasM (ratL q) = decide (q.num < 0) by rw [eL, hasM_sg]]
      exact hb.symm
theorem sgL_sgn {L : List Nat} {n : Nat} {q : Rat} {r : List Nat} (hq : q.num = n) (hc : ¬ (hasM L && decide (n = 0)) = true) (eL : L = if hasM L = true then 45 :: (TL.numL n ++ r) else TL.numL n ++ r) : sgL (sgn (hasM L) q).num ++ r = L := by
  cases hm : hasM L with
  | true =>
    rw [hm] at eL hc
    rw [if_pos rfl] at eL
    have n0 : n ≠ 0 := fun z => hc (by rw [decide_eq_true z]; rfl)
    show sgL (-q).num ++ r = L
    unfold sgL
    rw [Rat.neg_num, hq, if_pos (by omega), show (-(n : Int)).natAbs = n by omega]
    exact eL.symm
  | false =>
    rw [hm] at eL
    rw [if_neg (by decide)] at eL
    show sgL q.num ++ r = L
    unfold sgL
    rw [hq, if_neg (by omega)]
    exact eL.symm
theorem lawR_iff {L : List Nat} {q : Rat} : lawR L = some q ↔ Wr L q := by
  constructor
  · intro h
    have eL := strip_eq L
    unfold lawR at h
    split at h
    · rename_i p ep
      obtain ⟨n, h1, h4⟩ := Option.bind_eq_some_iff.mp h
      obtain ⟨hn, rfl⟩ := digN_iff.mp h1
      rw [spC_one_back ep] at eL
      by_cases hc : (hasM L && decide (n = 0)) = true
      · rw [if_pos hc] at h4; cases h4
      · rw [if_neg hc] at h4
        injection h4 with h4
        rw [← h4]
        refine wr_int hn ?_
        have := sgL_sgn (r := []) (num_int n) hc (by rw [List.append_nil]; exact eL)
        unfold ratL
        rw [sgn_den, den_int, if_pos rfl]
        exact this
    · rename_i p r ep
      obtain ⟨n, h1, h4⟩ := Option.bind_eq_some_iff.mp h
      by_cases hc : (hasM L && decide (n = 0)) = true
      · rw [if_pos hc] at h4; cases h4
      · rw [if_neg hc] at h4
        obtain ⟨m, h3, h5⟩ := Option.bind_eq_some_iff.mp h4
        obtain ⟨hn, rfl⟩ := digN_iff.mp h1
        obtain ⟨hm9, rfl⟩ := digN_iff.mp h3
        rw [spC_two_back ep] at eL
        by_cases hg : (decide (m < 2) || !decide (Nat.gcd n m = 1)) = true
        · rw [if_pos hg] at h5; cases h5
        · rw [if_neg hg] at h5
          have hg1 : 2 ≤ m := by
            by_cases z : m < 2
            · exact absurd (by rw [decide_eq_true z]; rfl) hg
            · omega
          have hg2 : Nat.gcd n m = 1 := by
            by_cases z : Nat.gcd n m = 1
            · exact z
            · exact absurd (by rw [decide_eq_false z]; simp) hg
          obtain ⟨d1, d2⟩ := div_one (n := n) (m := m) (by omega) hg2
          injection h5 with h5
          rw [← h5]
          have := sgL_sgn d1 hc eL
          refine ⟨?_, by rw [sgn_num, d1]; omega, by rw [sgn_den, d2]; omega⟩
          unfold ratL
          rw [sgn_den, d2, if_neg (show ¬ m = 1 by omega)]
          exact this
    · cases h
  · rintro ⟨rfl, hn, hd⟩
    have hb := signed_back q
    have n0 : ¬ (decide (q.num < 0) && decide (q.num.natAbs = 0)) = true := fun z => by
      obtain ⟨z1, z2⟩ := Bool.and_eq_true_iff.mp z
      have := of_decide_eq_true z1
      have := of_decide_eq_true z2
      omega
    by_cases e : q.den = 1
    · have eL : ratL q = sgL q.num ++ [] := by unfold ratL; rw [if_pos e]
      have eC : spC (strip (ratL q)) = [TL.numL q.num.natAbs] := by rw [eL, strip_sg, List.append_nil]; exact spC_free (TL.numL_free (.inl (by decide)))
      have hp : lawR (ratL q) = (digN (TL.numL q.num.natAbs)).bind fun n => if (hasM (ratL q) && decide (n = 0)) = true then none else some (sgn (hasM (ratL q)) ((n : Int) : Rat)) := by unfold lawR; rw [eC]
      rw [hp, digN_iff.mpr ⟨hn, rfl⟩, Option.bind_some, show hasM (ratL q) = decide (q.num < 0) by rw [eL, hasM_sg], if_neg n0]
      rw [e, show ((1 : Nat) : Int) = 1 from rfl, q_int] at hb
      rw [hb]
    · have eL : ratL q = sgL q.num ++ 47 :: TL.numL q.den := by unfold ratL; rw [if_neg e]
      have eC : spC (strip (ratL q)) = [TL.numL q.num.natAbs, TL.numL q.den] := by rw [eL, strip_sg]; exact spC_two (TL.numL_free (.inl (by decide))) (TL.numL_free (.inl (by decide)))
      have hp : lawR (ratL q) = (digN (TL.numL q.num.natAbs)).bind fun n => if (hasM (ratL q) && decide (n = 0)) = true then none else (digN (TL.numL q.den)).bind fun m => if (decide (m < 2) || !decide (Nat.gcd n m = 1)) = true then none else some (sgn (hasM (ratL q)) (Rat.divInt n m)) := by unfold lawR; rw [eC]
      have h0 := q.den_nz
      rw [hp, digN_iff.mpr ⟨hn, rfl⟩, Option.bind_some, show hasM (ratL q) = decide (q.num < 0) by rw [eL, hasM_sg], if_neg n0, digN_iff.mpr ⟨hd, rfl⟩, Option.bind_some, if_neg (fun z => by
        rw [decide_eq_false (show ¬ q.den < 2 by omega), decide_eq_true (show Nat.gcd q.num.natAbs q.den = 1 from q.reduced)] at z; cases z)]
      rw [hb]
theorem read_eq (L : List Nat) : progR L = lawR L := Option.ext fun q => progR_iff.trans lawR_iff.symm
def c_DIGITS : Str := "0123456789"
def optD : Option Nat → D
  | none => .non
  | some n => .int (n : Int)
/-- signs that a text may hold -/
def Uni (z : Str) : Prop := ∀ c, c ∈ TL.tl z → c < 1114112
theorem Uni.ok {z : Str} (h : Uni z) (n : Nat) : plD (.str z) n = true := by
  show PyData.strOk z = true
  unfold PyData.strOk
  rw [← Array.all_toList, List.all_eq_true]
  exact fun c hc => decide_eq_true (h c hc)
theorem tl_mkS (l : List Nat) : TL.tl (mkS l) = l := rfl
theorem len_mkS (l : List Nat) : (mkS l).length = l.length := rfl
theorem mkS_tl (z : Str) : mkS (TL.tl z) = z := TL.mk_tl z
theorem str_eq {x y : Str} : x = y ↔ TL.tl x = TL.tl y := ⟨fun h => by rw [h], TL.ext_tl⟩
theorem sgL_len {i : Int} (h : i.natAbs ≤ 2 ^ 300) : (sgL i).length ≤ 101 ∧ i.natAbs.log2 < 1920 := by
  have hn : i.natAbs < 10 ^ 100 := Nat.lt_of_le_of_lt h (by decide)
  have l := TL.numL_len (n := i.natAbs) (k := 100) (by decide) hn
  refine ⟨?_, ?_⟩
  · unfold sgL; split
    · rw [List.length_cons]; omega
    · omega
  · by_cases z : i.natAbs = 0
    · rw [z]; decide
    · have := (Nat.log2_lt z).mpr (Nat.lt_of_le_of_lt h (show 2 ^ 300 < 2 ^ 301 by decide))
      omega
theorem sgL_uni (i : Int) : ∀ c, c ∈ sgL i → c < 128 := fun c hc => by
  unfold sgL at hc
  split at hc
  · rcases List.mem_cons.mp hc with h | h
    · omega
    · have := TL.numL_digits _ c h; omega
  · have := TL.numL_digits _ c hc; omega
theorem ratL_len {q : Rat} (h : Bt 300 q) : (ratL q).length ≤ 203 ∧ ∀ c, c ∈ ratL q → c < 128 := by
  have l1 := (sgL_len h.1).1
  have l2 := (sgL_len (i := (q.den : Int)) (by rw [Int.natAbs_natCast]; exact h.2)).1
  have e2 : sgL (q.den : Int) = TL.numL q.den := by unfold sgL; rw [if_neg (by omega), Int.natAbs_natCast]
  rw [e2] at l2
  refine ⟨?_, fun c hc => ?_⟩
  · unfold ratL; rw [List.length_append]; split
    · rw [List.length_nil]; omega
    · rw [List.length_cons]; omega
  · unfold ratL at hc
    rcases List.mem_append.mp hc with m | m
    · exact sgL_uni _ c m
    · split at m
      · cases m
      · rcases List.mem_cons.mp m with h | h
        · omega
        · have := TL.numL_digits _ c h; omega
def sp_ratstr : DSp := fun ds M Q _ => ∃ q : Rat, ds = [.rat q] ∧ Bt 300 q ∧ Q (.str (ratS q)) M
theorem digs_list : c_DIGITS.cps.toList = [48, 49, 50, 51, 52, 53, 54, 55, 56, 57] := by decide +kernel
theorem dig_mem (c : Nat) : c ∈ ([48, 49, 50, 51, 52, 53, 54, 55, 56, 57] : List Nat) ↔ 48 ≤ c ∧ c ≤ 57 := by
  simp only [List.mem_cons, List.not_mem_nil, or_false]; omega
theorem dig_tail {C z : Str} {De : DEnds} {M : Mem} (hC : C.cps.toList = [48, 49, 50, 51, 52, 53, 54, 55, 56, 57]) (h1 : 1 ≤ z.length ∧ z.length ≤ 9) (h0 : ¬ ((TL.tl z).head? = some 48 ∧ 1 < (TL.tl z).length)) (hq : De.rt (optD (digN (TL.tl z))) M) :
    (dSeq (dFor (dIt (dVar 0)) (gNm 1)
  (dIf (dTst (dOp (rInS true) (dVar 1) (dC (.str C))))
  (dRet (dC .non))
  dNext))
  (dRet (dCB rIntS (dCons (dVar 0) dNil)))) De [some (.str z), none] M := by
  have hlen : (TL.tl z).length = z.length := rfl
  refine ⟨_, rfl, dLoop_ind (fun rest δ M1 => ∃ (cs : List Nat) (a : Option D), rest = cs.map (fun c => .str ⟨#[c]⟩) ∧ δ = [some (.str z), a] ∧ M1 = M ∧ (NumText.AllDigits (TL.tl z) ↔ NumText.AllDigits cs)) ?_ ?_ _ _ _ ⟨_, none, rfl, rfl, rfl, Iff.rfl⟩⟩
  · rintro x xs δ M1 K hK ⟨cs, a, e1, rfl, rfl, e2⟩
    cases cs with
    | nil => cases e1
    | cons c cs =>
      injection e1 with e1 e3
      subst e1; subst e3
      refine ⟨trivial, ⟨_, rfl, c, C, rfl, rfl, _, rfl, ite_b (fun h => ?_) (fun h => ?_)⟩⟩
      · have hc : ¬ (48 ≤ c ∧ c ≤ 57) := fun z => by
          rw [if_pos rfl, hC, decide_eq_true ((dig_mem c).mpr z)] at h; cases h
        have : digN (TL.tl z) = none := by
          unfold digN
          rw [if_neg fun o => hc (e2.mp (okW_iff.mp o).2.2 c List.mem_cons_self)]
        rw [this] at hq
        exact hq
      · have hc : 48 ≤ c ∧ c ≤ 57 := by
          by_cases z : 48 ≤ c ∧ c ≤ 57
          · exact z
          · rw [if_pos rfl, hC, decide_eq_false fun y => z ((dig_mem c).mp y)] at h; cases h
        refine hK _ _ ⟨cs, _, rfl, rfl, rfl, e2.trans ⟨fun y d hd => y d (List.mem_cons_of_mem _ hd), fun y d hd => ?_⟩⟩
        rcases List.mem_cons.mp hd with rfl | hd
        · exact hc
        · exact y d hd
  · rintro δ M1 ⟨cs, a, e1, rfl, rfl, e2⟩
    cases cs with
    | cons c cs => cases e1
    | nil =>
      have had := e2.mpr fun d hd => (nomatch hd)
      have : digN (TL.tl z) = some (NumText.digitsVal (TL.tl z)) := by
        unfold digN
        rw [if_pos (okW_iff.mpr ⟨by rw [hlen]; exact h1, h0, had⟩)]
      rw [this] at hq
      have hne : TL.tl z ≠ [] := fun y => by
        rw [y] at hlen
        rw [List.length_nil] at hlen
        omega
      exact ⟨trivial, _, rfl, z, _, rfl, PySem.intText_digits had hne (by omega), by omega, hq⟩
theorem dig_none {z : Str} (h : ¬ ((1 ≤ z.length ∧ z.length ≤ 9) ∧ ¬ ((TL.tl z).head? = some 48 ∧ 1 < (TL.tl z).length))) : digN (TL.tl z) = none := by
  unfold digN
  rw [if_neg fun o => h ⟨(okW_iff.mp o).1, (okW_iff.mp o).2.1⟩]
theorem starts_minus (x : Str) : Txt.startswith x "-" = hasM (TL.tl x) := by
  unfold Txt.startswith
  rw [PySem.StrLaws.subAt_eq, show ("-" : Str).length = 1 by decide +kernel, show ("-" : Str).cps.toList = [45] by decide +kernel, TL.len_tl]
  show (decide (0 + 1 ≤ (TL.tl x).length) && List.take 1 (List.drop 0 (TL.tl x)) == [45]) = hasM (TL.tl x)
  cases TL.tl x with
  | nil => rfl
  | cons c r =>
    show (decide (0 + 1 ≤ r.length + 1) && (((c :: r).drop 0).take 1 == [45])) = decide (some c = some 45)
    rw [decide_eq_true (by omega), Bool.true_and]
    show ([c] == [45]) = _
    rw [Bool.eq_iff_iff, beq_iff_eq, decide_eq_true_iff]
    simp
theorem cutS_eq (z : Str) (lo hi : Option Int) : cutS z lo hi = mkS (((TL.tl z).drop (HT.sIx z.length 0 lo)).take (HT.sIx z.length z.length hi - HT.sIx z.length 0 lo)) := rfl
theorem cutS_tail {p : List Nat} (h : 1 ≤ p.length) : cutS (mkS p) (some 1) none = mkS p.tail := by
  rw [cutS_eq]
  have e1 : HT.sIx (mkS p).length 0 (some 1) = 1 := by
    rw [len_mkS]
    unfold HT.sIx
    simp
    omega
  have e2 : HT.sIx (mkS p).length (mkS p).length none = p.length := by rw [len_mkS]; rfl
  rw [e1, e2, tl_mkS]
  congr 1
  rw [List.drop_one, List.take_of_length_le (by rw [List.length_tail]; omega)]
theorem strip_len (L : List Nat) : (strip L).length ≤ L.length := by
  unfold strip; split
  · rw [List.length_tail]; omega
  · omega
theorem strip_mem {L : List Nat} {c : Nat} (h : c ∈ strip L) : c ∈ L := by
  unfold strip at h; split at h
  · exact List.mem_of_mem_tail h
  · exact h
theorem hasM_pos {L : List Nat} (h : hasM L = true) : 1 ≤ L.length := by
  cases L with
  | nil => cases h
  | cons c r => rw [List.length_cons]; omega
theorem spC_mem : ∀ {l p : List Nat}, p ∈ spC l → (∀ c, c ∈ p → c ∈ l) ∧ p.length ≤ l.length
  | [], p, h => by
    have : p = [] := by simpa [spC] using h
    subst this
    exact ⟨fun c hc => hc, Nat.le_refl _⟩
  | x :: xs, p, h => by
    unfold spC at h
    split at h
    · rcases List.mem_cons.mp h with rfl | h
      · exact ⟨fun c hc => (nomatch hc), Nat.zero_le _⟩
      · obtain ⟨a, b⟩ := spC_mem h
        exact ⟨fun c hc => List.mem_cons_of_mem _ (a c hc), by rw [List.length_cons]; omega⟩
    · split at h
      · rename_i e; exact absurd e (spC_ne xs)
      · rename_i q qs e
        have hx : ∀ y, y ∈ q :: qs → (∀ c, c ∈ y → c ∈ xs) ∧ y.length ≤ xs.length := fun y hy => spC_mem (by rw [e]; exact hy)
        rcases List.mem_cons.mp h with rfl | h
        · obtain ⟨a, b⟩ := hx q List.mem_cons_self
          refine ⟨fun c hc => ?_, by rw [List.length_cons, List.length_cons]; omega⟩
          rcases List.mem_cons.mp hc with rfl | hc
          · exact List.mem_cons_self
          · exact List.mem_cons_of_mem _ (a c hc)
        · obtain ⟨a, b⟩ := hx p (List.mem_cons_of_mem _ h)
          exact ⟨fun c hc => List.mem_cons_of_mem _ (a c hc), by rw [List.length_cons]; omega⟩
theorem spC_len : ∀ l : List Nat, (spC l).length ≤ l.length + 1
  | [] => Nat.le_refl _
  | x :: xs => by
    have := spC_len xs
    unfold spC
    split
    · rw [List.length_cons, List.length_cons]; omega
    · split
      · simp
      · rename_i e; rw [e] at this; rw [List.length_cons, List.length_cons] at *; omega
theorem optD_pl : ∀ (N : List (Option Nat)) (n : Nat), plDs (N.map optD) n = true
  | [], _ => rfl
  | x :: N, n => by
    show (plD (optD x) n && plDs (N.map optD) n) = true
    rw [optD_pl N n, Bool.and_true]
    cases x <;> rfl
theorem optD_none {N : List (Option Nat)} : (D.non ∈ N.map optD) ↔ none ∈ N := by
  rw [List.mem_map]
  constructor
  · rintro ⟨x, h, e⟩
    cases x with
    | none => exact h
    | some n => cases e
  · exact fun h => ⟨none, h, rfl⟩
def w_Ratio___str__ : DSt :=
  (dSeq (dIf (dTst (dOp rEqP (dBot (dVar 0)) (dC (.int 1))))
  (dRet (dCB rStrI (dCons (dTop (dVar 0)) dNil)))
  dNext)
  (dRet (dJoin [(dFmt (dTop (dVar 0))), (dC (.str "/")), (dFmt (dBot (dVar 0)))])))
theorem rd_Ratio___str__ (ds M Q E) (h : sp_ratstr ds M Q E) : w_Ratio___str__ { nx := fun _ M' => Q .non M', rt := Q } (startD 1 ds) M := by
  obtain ⟨q, rfl, hb, hq⟩ := h
  have s1 := sgL_len hb.1
  have s2 := sgL_len (i := (q.den : Int)) (by rw [Int.natAbs_natCast]; exact hb.2)
  have e2 : sgL (q.den : Int) = TL.numL q.den := by unfold sgL; rw [if_neg (by omega), Int.natAbs_natCast]
  have t1 := tl_int q.num
  have t2 := tl_int (q.den : Int)
  have l1 : (Str.ofString (toString q.num)).length = (sgL q.num).length := by rw [TL.len_tl, t1]
  have l2 : (Str.ofString (toString (q.den : Int))).length = (sgL (q.den : Int)).length := by rw [TL.len_tl, t2]
  refine ⟨_, rfl, q, rfl, .inl ⟨rfl, rfl, fun t ht => ⟨t, rfl, ite_b (fun c => ?_) (fun c => ?_)⟩⟩⟩
  · have e : q.den = 1 := by have := ht.mp c; injection this with this; omega
    refine ⟨_, rfl, q, rfl, q.num, rfl, s1.2, ?_⟩
    have : Str.ofString (toString q.num) = ratS q := str_eq.mpr (by rw [t1]; show _ = ratL q; unfold ratL; rw [if_pos e, List.append_nil])
    rw [this]; exact hq
  · have e : q.den ≠ 1 := fun z => by
      have := ht.mpr (by rw [z]; rfl)
      rw [this] at c; cases c
    have ll : ∀ x y : Str, (x ++ y).length = x.length + y.length := fun x y => by rw [TL.len_tl, TL.tl_append, List.length_append, ← TL.len_tl, ← TL.len_tl]
    refine ⟨_, rfl, q, rfl, .inr ⟨q.num, rfl, s1.2, _, rfl, ?_, _, rfl, ?_, _, rfl, q, rfl, .inr ⟨(q.den : Int), rfl, s2.2, _, rfl, ?_, ?_⟩⟩⟩
    · rw [ll, l1]; exact sz16 (by show 0 + _ ≤ 1000000; omega)
    · rw [ll, ll, l1]; exact sz16 (by show 0 + _ + 1 ≤ 1000000; omega)
    · rw [ll, ll, ll, l1, l2]; exact sz16 (by show 0 + _ + 1 + _ ≤ 1000000; omega)
    · have : (((Str.empty ++ Str.ofString (toString q.num)) ++ "/") ++ Str.ofString (toString (q.den : Int)) : Str) = ratS q := str_eq.mpr (by
        rw [TL.tl_append, TL.tl_append, TL.tl_append, t1, t2, e2]
        show ([] ++ sgL q.num) ++ [47] ++ TL.numL q.den = ratL q
        unfold ratL; rw [if_neg e, List.nil_append, List.append_assoc]; rfl)
      exact this ▸ hq
def sp_read_digits : DSp := fun ds M Q _ => ∃ z : Str, ds = [.str z] ∧ Uni z ∧ z.length ≤ 1000 ∧ Q (optD (digN (TL.tl z))) M
def w_read_digits : DSt :=
  (dSeq (dIf (dOr (dNot (dTst (dChain rLeA rLeA (dC (.int 1)) (dCB rLen (dCons (dVar 0) dNil)) (dC (.int 9))))) (dAnd (dTst (dOp rEqA (dOp rIxD (dVar 0) (dC (.int 0))) (dC (.str "0")))) (dTst (dOp rNeA (dVar 0) (dC (.str "0"))))))
  (dRet (dC .non))
  dNext)
  (dSeq (dFor (dIt (dVar 0)) (gNm 1)
  (dIf (dTst (dOp (rInS true) (dVar 1) (dC (.str c_DIGITS))))
  (dRet (dC .non))
  dNext))
  (dRet (dCB rIntS (dCons (dVar 0) dNil)))))
theorem rd_read_digits (ds M Q E) (h : sp_read_digits ds M Q E) : w_read_digits { nx := fun _ M' => Q .non M', rt := Q } (startD 2 ds) M := by
  obtain ⟨z, rfl, hu, hl, hq⟩ := h
  have hs : z.length ≤ sizeLine := sz16 (by omega)
  have hlen : (TL.tl z).length = z.length := rfl
  have no : ¬ ((1 ≤ z.length ∧ z.length ≤ 9) ∧ ¬ ((TL.tl z).head? = some 48 ∧ 1 < (TL.tl z).length)) → Q .non M := fun n => by
    rw [dig_none n] at hq; exact hq
  refine ⟨_, rfl, .str z, z.length, rfl, ⟨hs, rfl⟩, trivial, _, rfl, ite_d (fun h1 => ⟨trivial, _, rfl, ?_⟩) (fun h1 => ⟨_, rfl, ?_⟩)⟩
  · by_cases h12 : ((z.length : Int) ≤ 9)
    · rw [decide_eq_true h12]
      obtain ⟨c, r, e⟩ : ∃ c r, TL.tl z = c :: r := by
        cases e : TL.tl z with
        | nil => rw [e] at hlen; simp at hlen; omega
        | cons c r => exact ⟨c, r, rfl⟩
      have u1 : Uni ⟨#[c]⟩ := fun d hd => by
        have : d = c := by simpa [TL.tl] using hd
        rw [this]; exact hu c (by rw [e]; exact List.mem_cons_self)
      have u0 : Uni "0" := fun d hd => by
        have : d = 48 := by have : d ∈ [48] := hd; simpa using this
        omega
      refine ite_f ⟨_, rfl, 0, rfl, hs, c, atI_nn (by decide) (by show (TL.tl z)[0]? = _; rw [e]; rfl), .inl ⟨u1.ok 8, u0.ok 8, fun t ht => ⟨t, rfl, ite_b (fun k1 => ?_) (fun k1 => ite_f ?_)⟩⟩⟩
      · have ec : c = 48 := by
          have := ht.mp k1
          injection this with this
          have := str_eq.mp this
          have : [c] = [48] := this
          injection this
        refine ⟨_, rfl, .inl ⟨hu.ok 8, u0.ok 8, fun t2 ht2 => ⟨t2, rfl, ite_b (fun k2 => ?_) (fun k2 => ?_)⟩⟩⟩
        · refine no fun ⟨_, y⟩ => y ⟨by rw [e, ec]; rfl, ?_⟩
          have hne := ht2.mp k2
          cases r with
          | nil => exact absurd (by rw [show z = ("0" : Str) from str_eq.mpr (by rw [e, ec]; rfl)]) hne
          | cons d r => rw [e]; simp
        · refine dig_tail digs_list ⟨by omega, by omega⟩ (fun ⟨_, y⟩ => ?_) hq
          by_cases hz : z = ("0" : Str)
          · rw [hz] at y; exact absurd y (by decide)
          · have := ht2.mpr fun w => hz (by injection w)
            rw [this] at k2; cases k2
      · refine dig_tail digs_list ⟨by omega, by omega⟩ (fun ⟨y, _⟩ => ?_) hq
        rw [e] at y
        injection y with y
        have := ht.mpr (by rw [y]; rfl)
        rw [this] at k1; cases k1
    · rw [decide_eq_false h12]
      exact no fun h => absurd h.1.2 (by omega)
  · exact no fun h => absurd h.1.1 (by omega)
def sp_Ratio_of (B : Addr) : DSp := fun ds M Q Ex => ∃ z : Str, ds = [.str z] ∧ Uni z ∧ z.length ≤ 1000 ∧ (progR (TL.tl z) = none → Ex B ["text"] [.str z] M) ∧ ∀ q, progR (TL.tl z) = some q → Q (.rat q) M
theorem of_tail {B : Addr} {z : Str} {E : DXS} {De : DEnds} {M : Mem} {q : Rat} {a1 a2 a3 a5 : Option D} (hu : Uni z) (hb : Bt 300 q) (h0 : fin (TL.tl z) q = none → ∀ a4, E B ["text"] [.str z] [some (.str z), a1, a2, a3, a4, a5] M) (h1 : ∀ r, fin (TL.tl z) q = some r → De.rt (.rat r) M) :
    (dSeq (dIf (dTru (dStarts (dVar 0) (dC (.str "-"))))
  (dSet 4 (dUn rNegA (dVar 4)))
  dNext)
  (dSeq (dIf (dTst (dOp rNeA (dCB (rStrR sp_ratstr) (dCons (dVar 4) dNil)) (dVar 0)))
  (dRaiseF B "text" (dVar 0) E)
  dNext)
  (dRet (dVar 4)))) De [some (.str z), a1, a2, a3, some (.rat q), a5] M := by
  have go : ∀ r, r = sgn (hasM (TL.tl z)) q → Bt 300 r → (dSeq (dIf (dTst (dOp rNeA (dCB (rStrR sp_ratstr) (dCons (dVar 4) dNil)) (dVar 0)))
  (dRaiseF B "text" (dVar 0) E)
  dNext)
  (dRet (dVar 4))) De [some (.str z), a1, a2, a3, some (.rat r), a5] M := by
    intro r er br
    have ur : Uni (ratS r) := fun c hc => by have := (ratL_len br).2 c hc; omega
    have ef : ∀ s, fin (TL.tl z) q = some s ↔ s = r ∧ ratL s = TL.tl z := fun s => by rw [er]; exact fin_iff
    refine ⟨_, rfl, .inr ⟨r, rfl, r, rfl, br, ⟨_, rfl⟩, _, rfl, .inl ⟨ur.ok 8, hu.ok 8, fun t ht => ⟨t, rfl, ite_b (fun k1 => ?_) (fun k1 => ?_)⟩⟩⟩⟩
    · refine ⟨_, rfl, h0 ?_ _⟩
      cases e : fin (TL.tl z) q with
      | none => rfl
      | some s =>
        obtain ⟨e1, e2⟩ := (ef s).mp e
        refine absurd ?_ (ht.mp k1)
        rw [show z = ratS r from str_eq.mpr (by rw [← e2, e1]; rfl)]
    · refine ⟨_, rfl, h1 r ((ef r).mpr ⟨rfl, ?_⟩)⟩
      by_cases hz : ratS r = z
      · rw [← hz]; rfl
      · have := ht.mpr fun w => hz (by injection w)
        rw [this] at k1; cases k1
  refine ⟨_, rfl, ⟨z, rfl⟩, z, "-", rfl, rfl, hasM (TL.tl z), (starts_minus z).symm ▸ rfl, ite_b (fun c => ?_) (fun c => ?_)⟩
  · exact ⟨_, rfl, hb.mono (by decide), go (-q) (by rw [c]; rfl) (bt_neg hb)⟩
  · exact go q (by rw [c]; rfl) hb
def w_Ratio_of (B : Addr) (E : DXS) : DSt :=
  (dSeq (dSet 1 (dSplit (dVar 0) (dC (.str "/"))))
  (dSeq (dSet 2 (dOp rIxD (dVar 1) (dC (.int 0))))
  (dSeq (dIf (dTru (dStarts (dVar 2) (dC (.str "-"))))
  (dSet 2 (dSlS (dVar 2) (dPart (dC (.int 1))) dNoPart))
  dNext)
  (dSeq (dSet 3 (dOp rAdd (dCB rLstV (dCons (dCall sp_read_digits (dCons (dVar 2) dNil)) dNil)) (dLc (dIt (dSl (dVar 1) (dPart (dC (.int 1))) dNoPart)) (gNm 5) dYes (dCall sp_read_digits (dCons (dVar 5) dNil)) [5])))
  (dSeq (dIf (dOr (dTst (dOp rGtA (dCB rLen (dCons (dVar 3) dNil)) (dC (.int 2)))) (dOr (dTst (dOp rInP (dC .non) (dVar 3))) (dAnd (dTst (dOp rEqA (dOp rIxD (dVar 3) (dUn rNegA (dC (.int 1)))) (dC (.int 0)))) (dTst (dOp rEqA (dCB rLen (dCons (dVar 3) dNil)) (dC (.int 2)))))))
  (dRaiseF B "text" (dVar 0) E)
  dNext)
  (dSeq (dSet 4 (dMk (dCons (dOp rIxD (dVar 3) (dC (.int 0))) (dCons (dOp rIxD (dOp rAdd (dVar 3) (dCB rLstV (dCons (dC (.int 1)) dNil))) (dC (.int 1))) dNil))))
  (dSeq (dIf (dTru (dStarts (dVar 0) (dC (.str "-"))))
  (dSet 4 (dUn rNegA (dVar 4)))
  dNext)
  (dSeq (dIf (dTst (dOp rNeA (dCB (rStrR sp_ratstr) (dCons (dVar 4) dNil)) (dVar 0)))
  (dRaiseF B "text" (dVar 0) E)
  dNext)
  (dRet (dVar 4))))))))))
theorem rd_Ratio_of (B : Addr) (ds M Q) (Ex : DX) (h : sp_Ratio_of B ds M Q Ex) : w_Ratio_of B (fun C ns fs _ M' => Ex C ns fs M') { nx := fun _ M' => Q .non M', rt := Q } (startD 6 ds) M := by
  obtain ⟨z, rfl, hu, hl, hx, hq⟩ := h
  have hlen : (TL.tl z).length = z.length := rfl
  obtain ⟨p, ps, eC⟩ : ∃ p ps, spC (TL.tl z) = p :: ps := by
    cases e : spC (TL.tl z) with
    | nil => exact absurd e (spC_ne _)
    | cons p ps => exact ⟨p, ps, rfl⟩
  have mem : ∀ y, y ∈ p :: ps → Uni (mkS y) ∧ (mkS y).length ≤ 1000 := fun y hy => by
    obtain ⟨a, b⟩ := spC_mem (l := TL.tl z) (by rw [eC]; exact hy)
    exact ⟨fun c hc => hu c (a c hc), by rw [len_mkS]; omega⟩
  have hC := spC_len (TL.tl z)
  rw [eC, List.length_cons] at hC
  have hp := mem p List.mem_cons_self
  refine ⟨_, rfl, ⟨z, rfl⟩, z, "/", rfl, rfl, by decide +kernel, sz16 (by omega), ?_⟩
  rw [split_eq, eC]
  refine ⟨_, rfl, 0, rfl, _, atI_nn (by decide) rfl, ?_⟩
  have sz : ([] : List D).length + ps.length ≤ sizeLine := by rw [List.length_nil]; exact sz16 (by omega)
  -- behind the sign
  have next : ∀ (w : Str), w = mkS (strip p) → (dSeq (dSet 3 (dOp rAdd (dCB rLstV (dCons (dCall sp_read_digits (dCons (dVar 2) dNil)) dNil)) (dLc (dIt (dSl (dVar 1) (dPart (dC (.int 1))) dNoPart)) (gNm 5) dYes (dCall sp_read_digits (dCons (dVar 5) dNil)) [5])))
  (dSeq (dIf (dOr (dTst (dOp rGtA (dCB rLen (dCons (dVar 3) dNil)) (dC (.int 2)))) (dOr (dTst (dOp rInP (dC .non) (dVar 3))) (dAnd (dTst (dOp rEqA (dOp rIxD (dVar 3) (dUn rNegA (dC (.int 1)))) (dC (.int 0)))) (dTst (dOp rEqA (dCB rLen (dCons (dVar 3) dNil)) (dC (.int 2)))))))
  (dRaiseF B "text" (dVar 0) fun C ns fs _ M' => Ex C ns fs M')
  dNext)
  (dSeq (dSet 4 (dMk (dCons (dOp rIxD (dVar 3) (dC (.int 0))) (dCons (dOp rIxD (dOp rAdd (dVar 3) (dCB rLstV (dCons (dC (.int 1)) dNil))) (dC (.int 1))) dNil))))
  (dSeq (dIf (dTru (dStarts (dVar 0) (dC (.str "-"))))
  (dSet 4 (dUn rNegA (dVar 4)))
  dNext)
  (dSeq (dIf (dTst (dOp rNeA (dCB (rStrR sp_ratstr) (dCons (dVar 4) dNil)) (dVar 0)))
  (dRaiseF B "text" (dVar 0) fun C ns fs _ M' => Ex C ns fs M')
  dNext)
  (dRet (dVar 4))))))) { nx := fun _ M' => Q .non M', rt := Q } [some (.str z), some (.lst (((p :: ps).map mkS).map D.str)), some (.str w), none, none, none] M := by
    rintro w rfl
    refine ⟨_, rfl, mkS (strip p), rfl, fun c hc => hp.1 c (strip_mem hc), by rw [len_mkS]; have := strip_len p; have := hp.2; rw [len_mkS] at this; omega, sz16 (show 1 ≤ 1000000 by decide), ?_⟩
    refine ⟨_, rfl, (1 : Int), rfl, .inl ⟨_, rfl, ?_⟩⟩
    rw [show (1 : Int) = ((1 : Nat) : Int) from rfl, cut_dropN (by simp)]
    have em : ((List.map D.str (List.map mkS (p :: ps))).drop 1) = ps.map fun l => D.str (mkS l) := by
      show (ps.map mkS).map D.str = _
      rw [List.map_map]; rfl
    rw [em]
    refine lc_ofD (fun l => D.str (mkS l)) (fun l => optD (digN l)) (fun l => l ∈ p :: ps) trivial (fun l K hl2 kk => ⟨_, rfl, mkS l, rfl, (mem l hl2).1, (mem l hl2).2, kk⟩) ps [] (fun l hl2 => List.mem_cons_of_mem _ hl2) sz ?_
    refine ⟨sz16 (by simp; omega), ?_⟩
    have eN : [optD (digN (strip p))] ++ ([] ++ ps.map fun l => optD (digN l)) = (digN (strip p) :: ps.map digN).map optD := by rw [List.map_cons, List.map_map]; rfl
    rw [show TL.tl (mkS (strip p)) = strip p from rfl, eN]
    have pl : plD (.lst ((digN (strip p) :: ps.map digN).map optD)) 8 = true := optD_pl _ 7
    have ln : ((digN (strip p) :: ps.map digN).map optD).length = ps.length + 1 := by simp
    have bad : progR (TL.tl z) = none → Ex B ["text"] [.str z] M := hx
    generalize eNN : digN (strip p) :: ps.map digN = N at pl ln
    refine ⟨_, rfl, .lst _, _, rfl, rfl, trivial, _, rfl, ite_d (fun c => ?_) (fun c => ?_)⟩
    · refine ⟨_, rfl, bad ?_⟩
      unfold progR
      rw [eC]
      match ps, ln with
      | [], ln => rw [ln] at c; simp at c
      | [r], ln => rw [ln] at c; simp at c
      | r :: s :: t, _ => rfl
    · refine ⟨_, rfl, _, rfl, rfl, pl, fun t ht => ⟨t, rfl, ite_b (fun k1 => ?_) (fun k1 => ?_)⟩⟩
      · have hn := optD_none.mp (ht.mp k1)
        rw [← eNN] at hn
        refine ⟨_, rfl, bad ?_⟩
        unfold progR
        rw [eC]
        match ps, ln, hn with
        | [], _, hn =>
          have : digN (strip p) = none := (List.mem_singleton.mp hn).symm
          show (digN (strip p)).bind _ = none
          rw [this]; rfl
        | [r], _, hn =>
          show (digN (strip p)).bind _ = none
          cases e1 : digN (strip p) with
          | none => rfl
          | some n =>
            have : digN r = none := by
              rw [e1] at hn
              have : none = digN r := by simpa using hn
              exact this.symm
            rw [Option.bind_some, this]; rfl
        | r :: s :: t, _, _ => rfl
      · have hn : none ∉ N := fun m => by rw [ht.mpr (optD_none.mpr m)] at k1; cases k1
        rw [← eNN] at hn
        match ps, ln, hn, eNN with
        | [], ln, hn, eNN =>
          obtain ⟨n, e1⟩ : ∃ n, digN (strip p) = some n := by
            cases e : digN (strip p) with
            | none => exact absurd (by rw [e]; exact List.mem_cons_self) hn
            | some n => exact ⟨n, rfl⟩
          have eP : progR (TL.tl z) = fin (TL.tl z) ((n : Int) : Rat) := by
            unfold progR; rw [eC]
            show (digN (strip p)).bind _ = _
            rw [e1]; rfl
          rw [eP] at bad hq
          have hn9 := (digN_iff.mp e1).1
          subst eNN
          rw [e1]
          have go : (dSeq (dSet 4 (dMk (dCons (dOp rIxD (dVar 3) (dC (.int 0))) (dCons (dOp rIxD (dOp rAdd (dVar 3) (dCB rLstV (dCons (dC (.int 1)) dNil))) (dC (.int 1))) dNil))))
  (dSeq (dIf (dTru (dStarts (dVar 0) (dC (.str "-"))))
  (dSet 4 (dUn rNegA (dVar 4)))
  dNext)
  (dSeq (dIf (dTst (dOp rNeA (dCB (rStrR sp_ratstr) (dCons (dVar 4) dNil)) (dVar 0)))
  (dRaiseF B "text" (dVar 0) fun C ns fs _ M' => Ex C ns fs M')
  dNext)
  (dRet (dVar 4))))) { nx := fun _ M' => Q .non M', rt := Q } [some (.str z), some (.lst (((p :: []).map mkS).map D.str)), some (.str (mkS (strip p))), some (.lst [.int (n : Int)]), none, none] M := by
            refine ⟨_, rfl, (0 : Int), rfl, _, atI_nn (by decide) rfl, _, rfl, sz16 (show 1 ≤ 1000000 by decide), sz16 (show 2 ≤ 1000000 by decide), (1 : Int), rfl, _, atI_nn (by decide) rfl, by decide, trivial, ?_⟩
            rw [q_int]
            exact of_tail hu (bt_int (by rw [Int.natAbs_natCast]; exact Nat.le_trans (Nat.le_of_lt hn9) (by decide))) (fun e _ => bad e) hq
          refine ⟨_, rfl, (-1 : Int), rfl, _, rfl, .inl ⟨rfl, rfl, fun t2 ht2 => ⟨t2, rfl, ite_b (fun k2 => ?_) (fun k2 => ite_f go)⟩⟩⟩
          refine ⟨_, rfl, .lst _, _, rfl, rfl, .inl ⟨rfl, rfl, fun t3 ht3 => ⟨t3, rfl, ite_b (fun k3 => ?_) (fun k3 => go)⟩⟩⟩
          have := ht3.mp k3; injection this with this; exact absurd (show (1 : Int) = 2 from this) (by decide)
        | [r], ln, hn, eNN =>
          obtain ⟨n, e1⟩ : ∃ n, digN (strip p) = some n := by
            cases e : digN (strip p) with
            | none => exact absurd (by rw [e]; exact List.mem_cons_self) hn
            | some n => exact ⟨n, rfl⟩
          obtain ⟨m, e2⟩ : ∃ n, digN r = some n := by
            cases e : digN r with
            | none => exact absurd (by show none ∈ [digN (strip p), digN r]; rw [e]; simp) hn
            | some n => exact ⟨n, rfl⟩
          have eP : progR (TL.tl z) = if m = 0 then none else fin (TL.tl z) (Rat.divInt n m) := by
            unfold progR; rw [eC]
            show (digN (strip p)).bind _ = _
            rw [e1, Option.bind_some, e2]; rfl
          rw [eP] at bad hq
          have hn9 := (digN_iff.mp e1).1
          have hm9 := (digN_iff.mp e2).1
          subst eNN
          rw [e1, show ([r].map digN) = [some m] by rw [← e2]; rfl]
          have go : m ≠ 0 → (dSeq (dSet 4 (dMk (dCons (dOp rIxD (dVar 3) (dC (.int 0))) (dCons (dOp rIxD (dOp rAdd (dVar 3) (dCB rLstV (dCons (dC (.int 1)) dNil))) (dC (.int 1))) dNil))))
  (dSeq (dIf (dTru (dStarts (dVar 0) (dC (.str "-"))))
  (dSet 4 (dUn rNegA (dVar 4)))
  dNext)
  (dSeq (dIf (dTst (dOp rNeA (dCB (rStrR sp_ratstr) (dCons (dVar 4) dNil)) (dVar 0)))
  (dRaiseF B "text" (dVar 0) fun C ns fs _ M' => Ex C ns fs M')
  dNext)
  (dRet (dVar 4))))) { nx := fun _ M' => Q .non M', rt := Q } [some (.str z), some (.lst (((p :: [r]).map mkS).map D.str)), some (.str (mkS (strip p))), some (.lst [.int (n : Int), .int (m : Int)]), none, none] M := by
            intro m0
            rw [if_neg m0] at bad hq
            refine ⟨_, rfl, (0 : Int), rfl, _, atI_nn (by decide) rfl, _, rfl, sz16 (show 1 ≤ 1000000 by decide), sz16 (show 3 ≤ 1000000 by decide), (1 : Int), rfl, _, atI_nn (by decide) rfl, by omega, trivial, ?_⟩
            exact of_tail hu (bt_div (by rw [Int.natAbs_natCast]; exact Nat.le_trans (Nat.le_of_lt hn9) (by decide)) (by rw [Int.natAbs_natCast]; exact Nat.le_trans (Nat.le_of_lt hm9) (by decide))) (fun e _ => bad e) hq
          refine ⟨_, rfl, (-1 : Int), rfl, _, rfl, .inl ⟨rfl, rfl, fun t2 ht2 => ⟨t2, rfl, ite_b (fun k2 => ?_) (fun k2 => ite_f (go fun m0 => ?_))⟩⟩⟩
          · have m0 : m = 0 := by have := ht2.mp k2; injection this with this; omega
            rw [if_pos m0] at bad
            refine ⟨_, rfl, .lst _, _, rfl, rfl, .inl ⟨rfl, rfl, fun t3 ht3 => ⟨t3, rfl, ite_b (fun k3 => ⟨_, rfl, bad rfl⟩) (fun k3 => ?_)⟩⟩⟩
            rw [ht3.mpr rfl] at k3; cases k3
          · rw [ht2.mpr (by rw [m0]; rfl)] at k2; cases k2
        | r :: s :: t, ln, _, _ => rw [ln] at c; simp at c; omega
  refine ⟨_, rfl, ⟨_, rfl⟩, _, "-", rfl, rfl, hasM p, ?_, ite_b (fun c => ?_) (fun c => ?_)⟩
  · rw [show Txt.startswith (mkS p) "-" = hasM p from starts_minus (mkS p)]; rfl
  · refine ⟨_, rfl, (1 : Int), rfl, mkS p, rfl, sz16 (by have := hp.2; omega), ?_⟩
    rw [cutS_tail (hasM_pos c)]
    exact next _ (by unfold strip; rw [if_pos c])
  · exact next _ (by unfold strip; rw [if_neg (by rw [c]; decide)])
def sp_law_is : DSp := fun ds M Q _ => ∃ p q : Rat, ds = [.rat p, pairD q] ∧ Q (.bl (decide (p = q))) M
def w_law_is : DSt :=
  (dSeq (dIf (dOr (dNot (dTru (dIsR (dVar 0)))) (dOr (dTru (dCB rIsi (dCons (dTop (dVar 0)) (dCons (dC (.ty "bool")) dNil)))) (dTru (dCB rIsi (dCons (dBot (dVar 0)) (dCons (dC (.ty "bool")) dNil))))))
  (dRet (dC (.bl false)))
  dNext)
  (dRet (dAndV (dCB rIsi (dCons (dTop (dVar 0)) (dCons (dC (.ty "int")) dNil))) (dOp rEqA (dCB rTup (dCons (dTop (dVar 0)) (dCons (dBot (dVar 0)) dNil))) (dVar 1)))))
theorem rd_law_is (ds M Q E) (h : sp_law_is ds M Q E) : w_law_is { nx := fun _ M' => Q .non M', rt := Q } (startD 2 ds) M := by
  obtain ⟨p, q, rfl, hq⟩ := h
  have no : ∀ i : Int, kitB "int" "bool" = some false := fun _ => by decide
  refine ⟨_, rfl, true, rfl, ite_f ?_⟩
  refine ⟨_, rfl, p, rfl, _, "bool", "int", false, rfl, rfl, by decide, false, rfl, ite_f ?_⟩
  refine ⟨_, rfl, p, rfl, _, "bool", "int", false, rfl, rfl, by decide, false, rfl, ite_f ?_⟩
  refine ⟨_, rfl, p, rfl, _, "int", "int", true, rfl, rfl, by decide, true, rfl, ite_t ?_⟩
  refine ⟨_, rfl, p, rfl, _, rfl, p, rfl, sz16 (show 2 ≤ 1000000 by decide), _, rfl, .inl ⟨rfl, rfl, fun t ht => ?_⟩⟩
  have e : t = decide (p = q) := by
    have : (t = true ↔ p = q) := ht.trans ⟨fun h => by
      injection h with h
      injection h with h1 h
      injection h with h2 h
      injection h1 with h1
      injection h2 with h2
      exact (q_eq p q).mpr ⟨h1, h2⟩, fun h => by rw [h]; rfl⟩
    by_cases h : p = q
    · rw [decide_eq_true h, this.mpr h]
    · rw [decide_eq_false h]
      cases t with
      | true => exact absurd (this.mp rfl) h
      | false => rfl
  rw [e]
  exact hq
def sp_law_common : DSp := fun ds M Q _ => ∃ a b : Int, ds = [.int a, .int b] ∧ 0 ≤ a ∧ 0 ≤ b ∧ Builtin.Int.intBits b < 1000000000 ∧ Q (.int ((Nat.gcd a.natAbs b.natAbs : Nat) : Int)) M
def w_law_common : DSt :=
  (dSeq (dFor (dRng1 (dCons (dOp rAddP (dOp rMulI (dC (.int 2)) (dBits (dVar 1))) (dC (.int 3))) dNil)) (gNm 2)
  (dSeq (dIf (dTst (dOp rEqP (dVar 1) (dC (.int 0))))
  dBreak
  dNext)
  (dSeq (dSet 3 (dOp rMod (dCB rInt (dCons (dVar 0) dNil)) (dVar 1)))
  (dSeq (dSet 0 (dVar 1))
  (dSet 1 (dVar 3))))))
  (dRet (dVar 0)))
theorem rd_law_common (ds M Q E) (h : sp_law_common ds M Q E) : w_law_common { nx := fun _ M' => Q .non M', rt := Q } (startD 4 ds) M := by
  obtain ⟨a, b, rfl, ha, hb, hbits, hq⟩ := h
  have hlen : (rngD 0 (2 * (Builtin.Int.intBits b : Nat) + 3 : Int)).length = 2 * Builtin.Int.intBits b + 3 := by unfold rngD; rw [List.length_map, List.length_range]; omega
  refine ⟨_, rfl, b, rfl, mulL (by decide) (by decide), _, rfl, by omega, ?_⟩
  refine dLoop_ind (fun rest δ M1 => ∃ (x y : Int) (a2 a3 : Option D), δ = [some (.int x), some (.int y), a2, a3] ∧ M1 = M ∧ 0 ≤ x ∧ 0 ≤ y ∧ Nat.gcd x.natAbs y.natAbs = Nat.gcd a.natAbs b.natAbs ∧ Fuel rest.length x y) ?_ ?_ _ _ _
    ⟨a, b, none, none, rfl, rfl, ha, hb, rfl, .inl ⟨Builtin.Int.intBits b, ?_, ?_⟩⟩
  · rintro k ks δ M1 K hK ⟨x, y, a2, a3, rfl, rfl, hx, hy, hg, hf⟩
    refine ⟨trivial, ⟨_, rfl, .inl ⟨rfl, rfl, fun t ht => ⟨t, rfl, ite_b (fun h1 => ?_) (fun h1 => ?_)⟩⟩⟩⟩
    · have e := ht.mp h1
      injection e with e
      subst e
      refine ⟨_, rfl, ?_⟩
      rw [← hg] at hq
      have : ((Nat.gcd x.natAbs (0 : Int).natAbs : Nat) : Int) = x := by simp; omega
      rw [this] at hq
      exact hq
    · have hy0 : y ≠ 0 := fun e => by rw [ht.mpr (by rw [e])] at h1; cases h1
      have hyp : 0 < y := by omega
      refine ⟨_, rfl, .inl ⟨x, rfl, _, rfl, hy0, _, rfl, _, rfl, ?_⟩⟩
      refine hK _ _ ⟨y, x % y, _, _, by rw [← fmod_pos hyp]; rfl, rfl, hy, Int.emod_nonneg _ hy0, by rw [gcd_step hx hy]; exact hg, fuel_step hyp hf⟩
  · rintro δ M1 ⟨x, y, a2, a3, rfl, rfl, hx, hy, hg, hf⟩
    obtain rfl := fuel_end hy hf
    refine ⟨trivial, _, rfl, ?_⟩
    rw [← hg] at hq
    have : ((Nat.gcd x.natAbs (0 : Int).natAbs : Nat) : Int) = x := by simp; omega
    rw [this] at hq
    exact hq
  · have := (intBits_le_iff (x := b)).mp (Nat.le_refl _)
    have e : (b.natAbs : Int) < ((2 ^ Builtin.Int.intBits b : Nat) : Int) := Int.ofNat_lt.mpr this
    rw [Int.natCast_pow] at e
    have : (b.natAbs : Int) = b := by omega
    rw [this] at e
    exact e
  · rw [hlen]; omega
def sp_law_digits : DSp := fun ds M Q _ => ∃ z : Str, ds = [.str z] ∧ Uni z ∧ z.length ≤ 1000 ∧ Q (optD (digN (TL.tl z))) M
def w_law_digits : DSt :=
  (dSeq (dIf (dOr (dNot (dTst (dChain rLeA rLeA (dC (.int 1)) (dCB rLen (dCons (dVar 0) dNil)) (dC (.int 9))))) (dAnd (dTst (dOp rEqA (dOp rIxD (dVar 0) (dC (.int 0))) (dC (.str "0")))) (dTst (dOp rGtA (dCB rLen (dCons (dVar 0) dNil)) (dC (.int 1))))))
  (dRet (dC .non))
  dNext)
  (dSeq (dFor (dIt (dVar 0)) (gNm 1)
  (dIf (dTst (dOp (rInS true) (dVar 1) (dC (.str "0123456789"))))
  (dRet (dC .non))
  dNext))
  (dRet (dCB rIntS (dCons (dVar 0) dNil)))))
theorem rd_law_digits (ds M Q E) (h : sp_law_digits ds M Q E) : w_law_digits { nx := fun _ M' => Q .non M', rt := Q } (startD 2 ds) M := by
  obtain ⟨z, rfl, hu, hl, hq⟩ := h
  have hs : z.length ≤ sizeLine := sz16 (by omega)
  have hlen : (TL.tl z).length = z.length := rfl
  have no : ¬ ((1 ≤ z.length ∧ z.length ≤ 9) ∧ ¬ ((TL.tl z).head? = some 48 ∧ 1 < (TL.tl z).length)) → Q .non M := fun n => by
    rw [dig_none n] at hq; exact hq
  have dl : ("0123456789" : Str).cps.toList = [48, 49, 50, 51, 52, 53, 54, 55, 56, 57] := digs_list
  refine ⟨_, rfl, .str z, z.length, rfl, ⟨hs, rfl⟩, trivial, _, rfl, ite_d (fun h1 => ⟨trivial, _, rfl, ?_⟩) (fun h1 => ⟨_, rfl, ?_⟩)⟩
  · by_cases h12 : ((z.length : Int) ≤ 9)
    · rw [decide_eq_true h12]
      obtain ⟨c, r, e⟩ : ∃ c r, TL.tl z = c :: r := by
        cases e : TL.tl z with
        | nil => rw [e] at hlen; simp at hlen; omega
        | cons c r => exact ⟨c, r, rfl⟩
      have u1 : Uni ⟨#[c]⟩ := fun d hd => by
        have : d = c := by simpa [TL.tl] using hd
        rw [this]; exact hu c (by rw [e]; exact List.mem_cons_self)
      have u0 : Uni "0" := fun d hd => by
        have : d = 48 := by have : d ∈ [48] := hd; simpa using this
        omega
      refine ite_f ⟨_, rfl, 0, rfl, hs, c, atI_nn (by decide) (by show (TL.tl z)[0]? = _; rw [e]; rfl), .inl ⟨u1.ok 8, u0.ok 8, fun t ht => ⟨t, rfl, ite_b (fun k1 => ?_) (fun k1 => ite_f ?_)⟩⟩⟩
      · have ec : c = 48 := by
          have := ht.mp k1
          injection this with this
          have := str_eq.mp this
          have : [c] = [48] := this
          injection this
        refine ⟨_, rfl, .str z, z.length, rfl, ⟨hs, rfl⟩, trivial, _, rfl, ite_d (fun k2 => ?_) (fun k2 => ?_)⟩
        · refine no fun ⟨_, y⟩ => y ⟨by rw [e, ec]; rfl, by rw [hlen]; omega⟩
        · exact dig_tail dl ⟨by omega, by omega⟩ (fun ⟨_, y⟩ => by rw [hlen] at y; omega) hq
      · refine dig_tail dl ⟨by omega, by omega⟩ (fun ⟨y, _⟩ => ?_) hq
        rw [e] at y
        injection y with y
        have := ht.mpr (by rw [y]; rfl)
        rw [this] at k1; cases k1
    · rw [decide_eq_false h12]
      exact no fun h => absurd h.1.2 (by omega)
  · exact no fun h => absurd h.1.1 (by omega)
def readD : Option Rat → D
  | none => .non
  | some q => pairD q
theorem cutS_one (z : Str) : cutS z none (some 1) = mkS ((TL.tl z).take 1) := by
  rw [cutS_eq]
  have e1 : HT.sIx z.length 0 none = 0 := rfl
  have e2 : HT.sIx z.length z.length (some 1) = min 1 z.length := HT.sIx_nat _ _ 1
  have hl : (TL.tl z).length = z.length := rfl
  rw [e1, e2, List.drop_zero, Nat.sub_zero]
  congr 1
  by_cases h : 1 ≤ z.length
  · rw [Nat.min_eq_left h]
  · have : TL.tl z = [] := List.eq_nil_of_length_eq_zero (by omega)
    rw [this, List.take_nil, List.take_nil]
theorem take_minus (L : List Nat) : L.take 1 = [45] ↔ hasM L = true := by
  cases L with
  | nil =>
    constructor
    · intro h; cases h
    · intro h; cases h
  | cons c r =>
    show [c] = [45] ↔ decide (some c = some 45) = true
    rw [decide_eq_true_iff]; simp
def sp_law_read : DSp := fun ds M Q _ => ∃ z : Str, ds = [.str z] ∧ Uni z ∧ z.length ≤ 1000 ∧ Q (readD (lawR (TL.tl z))) M
theorem uni_minus : Uni "-" := fun d hd => by
  have : d ∈ [45] := hd
  have : d = 45 := by simpa using this
  omega
def w_law_read : DSt :=
  (dSeq (dSet 1 (dC (.int 1)))
  (dSeq (dSet 2 (dVar 0))
  (dSeq (dIf (dTst (dOp rEqA (dSlS (dVar 0) dNoPart (dPart (dC (.int 1)))) (dC (.str "-"))))
  (dSeq (dSet 1 (dUn rNegA (dC (.int 1))))
  (dSet 2 (dSlS (dVar 0) (dPart (dC (.int 1))) dNoPart)))
  dNext)
  (dSeq (dSet 3 (dSplit (dVar 2) (dC (.str "/"))))
  (dSeq (dSet 4 (dCall sp_law_digits (dCons (dOp rIxD (dVar 3) (dC (.int 0))) dNil)))
  (dSeq (dIf (dOr (dTst (dOp rIsN (dVar 4) (dC .non))) (dOr (dTst (dOp rGtA (dCB rLen (dCons (dVar 3) dNil)) (dC (.int 2)))) (dAnd (dTst (dOp rLtA (dVar 1) (dC (.int 0)))) (dTst (dOp rEqA (dVar 4) (dC (.int 0)))))))
  (dRet (dC .non))
  dNext)
  (dSeq (dIf (dTst (dOp rEqA (dCB rLen (dCons (dVar 3) dNil)) (dC (.int 1))))
  (dRet (dCB rTup (dCons (dOp rMul (dVar 1) (dVar 4)) (dCons (dC (.int 1)) dNil))))
  dNext)
  (dSeq (dSet 5 (dCall sp_law_digits (dCons (dOp rIxD (dVar 3) (dC (.int 1))) dNil)))
  (dSeq (dIf (dOr (dTst (dOp rIsN (dVar 5) (dC .non))) (dOr (dTst (dOp rLtA (dVar 5) (dC (.int 2)))) (dTst (dOp rNeA (dCall sp_law_common (dCons (dVar 4) (dCons (dVar 5) dNil))) (dC (.int 1))))))
  (dRet (dC .non))
  dNext)
  (dRet (dCB rTup (dCons (dOp rMul (dVar 1) (dVar 4)) (dCons (dVar 5) dNil)))))))))))))
theorem rd_law_read (ds M Q E) (h : sp_law_read ds M Q E) : w_law_read { nx := fun _ M' => Q .non M', rt := Q } (startD 6 ds) M := by
  obtain ⟨z, rfl, hu, hl, hq⟩ := h
  have hlen : (TL.tl z).length = z.length := rfl
  generalize hR : lawR (TL.tl z) = R at hq
  unfold lawR at hR
  have sl := strip_len (TL.tl z)
  have ub : Uni (mkS (strip (TL.tl z))) := fun c hc => hu c (strip_mem hc)
  obtain ⟨p, ps, eC⟩ : ∃ p ps, spC (strip (TL.tl z)) = p :: ps := by
    cases e : spC (strip (TL.tl z)) with
    | nil => exact absurd e (spC_ne _)
    | cons p ps => exact ⟨p, ps, rfl⟩
  have mem : ∀ y, y ∈ p :: ps → Uni (mkS y) ∧ (mkS y).length ≤ 1000 := fun y hy => by
    obtain ⟨a, b⟩ := spC_mem (l := strip (TL.tl z)) (by rw [eC]; exact hy)
    exact ⟨fun c hc => ub c (a c hc), by rw [len_mkS]; omega⟩
  have ut : Uni (mkS ((TL.tl z).take 1)) := fun c hc => hu c (List.mem_of_mem_take hc)
  -- behind the sign
  have next : ∀ (m : Bool), m = hasM (TL.tl z) → (dSeq (dSet 3 (dSplit (dVar 2) (dC (.str "/"))))
  (dSeq (dSet 4 (dCall sp_law_digits (dCons (dOp rIxD (dVar 3) (dC (.int 0))) dNil)))
  (dSeq (dIf (dOr (dTst (dOp rIsN (dVar 4) (dC .non))) (dOr (dTst (dOp rGtA (dCB rLen (dCons (dVar 3) dNil)) (dC (.int 2)))) (dAnd (dTst (dOp rLtA (dVar 1) (dC (.int 0)))) (dTst (dOp rEqA (dVar 4) (dC (.int 0)))))))
  (dRet (dC .non))
  dNext)
  (dSeq (dIf (dTst (dOp rEqA (dCB rLen (dCons (dVar 3) dNil)) (dC (.int 1))))
  (dRet (dCB rTup (dCons (dOp rMul (dVar 1) (dVar 4)) (dCons (dC (.int 1)) dNil))))
  dNext)
  (dSeq (dSet 5 (dCall sp_law_digits (dCons (dOp rIxD (dVar 3) (dC (.int 1))) dNil)))
  (dSeq (dIf (dOr (dTst (dOp rIsN (dVar 5) (dC .non))) (dOr (dTst (dOp rLtA (dVar 5) (dC (.int 2)))) (dTst (dOp rNeA (dCall sp_law_common (dCons (dVar 4) (dCons (dVar 5) dNil))) (dC (.int 1))))))
  (dRet (dC .non))
  dNext)
  (dRet (dCB rTup (dCons (dOp rMul (dVar 1) (dVar 4)) (dCons (dVar 5) dNil)))))))))) { nx := fun _ M' => Q .non M', rt := Q } [some (.str z), some (.int (if m = true then -1 else 1)), some (.str (mkS (strip (TL.tl z)))), none, none, none] M := by
    intro m em
    refine ⟨_, rfl, ⟨_, rfl⟩, mkS (strip (TL.tl z)), "/", rfl, rfl, by decide +kernel, sz16 (by rw [len_mkS]; omega), ?_⟩
    rw [split_eq, tl_mkS, eC]
    refine ⟨_, rfl, 0, rfl, _, atI_nn (by decide) rfl, mkS p, rfl, (mem p List.mem_cons_self).1, (mem p List.mem_cons_self).2, ?_⟩
    rw [tl_mkS]
    have ln : (((p :: ps).map mkS).map D.str).length = ps.length + 1 := by simp
    cases e1 : digN p with
    | none =>
      refine ⟨_, rfl, rfl, _, rfl, ite_t ?_⟩
      have : R = none := by
        rw [← hR, eC]
        match ps with
        | [] => show (digN p).bind _ = _; rw [e1]; rfl
        | [r] => show (digN p).bind _ = _; rw [e1]; rfl
        | r :: s :: t => rfl
      rw [this] at hq; exact hq
    | some n =>
      have hn9 := (digN_iff.mp e1).1
      have sn : ((if m = true then (-1 : Int) else 1) < 0) ↔ m = true := by cases m <;> simp
      have sg : ∀ q : Rat, sgn m q = if m = true then -q else q := fun q => by cases m <;> rfl
      have bd : (if m = true then (-1 : Int) else 1).natAbs = 1 := by cases m <;> rfl
      have ns : ∀ q : Rat, q.num = n → (sgn m q).num = (if m = true then (-1 : Int) else 1) * n := fun q e => by
        cases m with
        | true => show (-q).num = -1 * _; rw [Rat.neg_num, e]; omega
        | false => show q.num = 1 * _; rw [e]; omega
      have rest : ¬ (hasM (TL.tl z) && decide (n = 0)) = true → ps.length ≤ 1 → (dSeq (dIf (dTst (dOp rEqA (dCB rLen (dCons (dVar 3) dNil)) (dC (.int 1))))
  (dRet (dCB rTup (dCons (dOp rMul (dVar 1) (dVar 4)) (dCons (dC (.int 1)) dNil))))
  dNext)
  (dSeq (dSet 5 (dCall sp_law_digits (dCons (dOp rIxD (dVar 3) (dC (.int 1))) dNil)))
  (dSeq (dIf (dOr (dTst (dOp rIsN (dVar 5) (dC .non))) (dOr (dTst (dOp rLtA (dVar 5) (dC (.int 2)))) (dTst (dOp rNeA (dCall sp_law_common (dCons (dVar 4) (dCons (dVar 5) dNil))) (dC (.int 1))))))
  (dRet (dC .non))
  dNext)
  (dRet (dCB rTup (dCons (dOp rMul (dVar 1) (dVar 4)) (dCons (dVar 5) dNil))))))) { nx := fun _ M' => Q .non M', rt := Q } [some (.str z), some (.int (if m = true then -1 else 1)), some (.str (mkS (strip (TL.tl z)))), some (.lst (((p :: ps).map mkS).map D.str)), some (.int (n : Int)), none] M := by
        intro hc hps
        have ml : IntMulOk (if m = true then (-1 : Int) else 1) (n : Int) := mulL (by omega) (by omega)
        match ps, hps, eC, ln, mem with
        | [], _, eC, ln, mem =>
          have : R = some (sgn m ((n : Int) : Rat)) := by
            rw [← hR, eC]
            show (digN p).bind _ = _
            rw [e1, Option.bind_some, if_neg hc, em]
          rw [this] at hq
          have hq : Q (.tup [.int (sgn m ((n : Int) : Rat)).num, .int (sgn m ((n : Int) : Rat)).den]) M := hq
          rw [ns _ (num_int n), sgn_den, den_int] at hq
          refine ⟨_, rfl, .lst _, _, rfl, rfl, .inl ⟨rfl, rfl, fun t ht => ⟨t, rfl, ite_b (fun k1 => ?_) (fun k1 => ?_)⟩⟩⟩
          · exact ⟨_, rfl, _, rfl, ml, sz16 (show 2 ≤ 1000000 by decide), hq⟩
          · rw [ht.mpr (by rw [ln]; rfl)] at k1; cases k1
        | [r], _, eC, ln, mem =>
          have hm2 := mem r (by simp)
          refine ⟨_, rfl, .lst _, _, rfl, rfl, .inl ⟨rfl, rfl, fun t ht => ⟨t, rfl, ite_b (fun k1 => ?_) (fun k1 => ?_)⟩⟩⟩
          · have := ht.mp k1; rw [ln] at this; injection this with this; exact absurd (show (2 : Int) = 1 from this) (by decide)
          · refine ⟨_, rfl, (1 : Int), rfl, _, atI_nn (by decide) rfl, mkS r, rfl, hm2.1, hm2.2, ?_⟩
            rw [tl_mkS]
            cases e2 : digN r with
            | none =>
              have : R = none := by
                rw [← hR, eC]
                show (digN p).bind _ = _
                rw [e1, Option.bind_some, if_neg hc, e2]; rfl
              rw [this] at hq
              exact ⟨_, rfl, rfl, _, rfl, ite_t hq⟩
            | some b =>
              have hb9 := (digN_iff.mp e2).1
              have eR : R = if (decide (b < 2) || !decide (Nat.gcd n b = 1)) = true then none else some (sgn m (Rat.divInt n b)) := by
                rw [← hR, eC]
                show (digN p).bind _ = _
                rw [e1, Option.bind_some, if_neg hc, e2, Option.bind_some, em]
              refine ⟨_, rfl, rfl, _, rfl, ite_f ⟨_, rfl, trivial, _, rfl, ite_d (fun c2 => ?_) (fun c2 => ?_)⟩⟩
              · rw [if_pos (by rw [decide_eq_true (show b < 2 by omega)]; rfl)] at eR
                rw [eR] at hq; exact hq
              · refine ⟨_, rfl, _, rfl, (n : Int), (b : Int), rfl, by omega, by omega, ?_, ?_⟩
                · exact Nat.lt_of_le_of_lt (intBits_le_iff.mpr (show (b : Int).natAbs < 2 ^ 30 by rw [Int.natAbs_natCast]; exact Nat.lt_trans hb9 (by decide))) (by decide)
                · rw [Int.natAbs_natCast, Int.natAbs_natCast]
                  refine .inl ⟨rfl, rfl, fun t2 ht2 => ⟨t2, rfl, ite_b (fun k2 => ?_) (fun k2 => ?_)⟩⟩
                  · have hne : ¬ Nat.gcd n b = 1 := fun z => ht2.mp k2 (by rw [z]; rfl)
                    rw [if_pos (by rw [decide_eq_false hne]; simp)] at eR
                    rw [eR] at hq; exact hq
                  · have hg : Nat.gcd n b = 1 := by
                      by_cases z : Nat.gcd n b = 1
                      · exact z
                      · rw [ht2.mpr fun w => z (by injection w with w; omega)] at k2; cases k2
                    rw [if_neg (by rw [decide_eq_false (show ¬ b < 2 by omega), decide_eq_true hg]; decide)] at eR
                    rw [eR] at hq
                    obtain ⟨d1, d2⟩ := div_one (n := n) (m := b) (by omega) hg
                    have hq : Q (.tup [.int (sgn m (Rat.divInt n b)).num, .int (sgn m (Rat.divInt n b)).den]) M := hq
                    rw [ns _ d1, sgn_den, d2] at hq
                    exact ⟨_, rfl, _, rfl, ml, _, rfl, sz16 (show 2 ≤ 1000000 by decide), hq⟩
        | r :: s :: t, hps, _, _, _ => simp at hps
      refine ⟨_, rfl, rfl, _, rfl, ite_f ⟨_, rfl, .lst _, _, rfl, rfl, trivial, _, rfl, ite_d (fun c => ?_) (fun c => ⟨_, rfl, trivial, _, rfl, ite_d (fun c1 => ⟨_, rfl, .inl ⟨rfl, rfl, fun t ht => ⟨t, rfl, ite_b (fun k1 => ?_) (fun k1 => ?_)⟩⟩⟩) (fun c1 => ite_f (rest ?_ ?_))⟩)⟩⟩
      · match ps, ln with
        | [], ln => rw [ln] at c; simp at c
        | [r], ln => rw [ln] at c; simp at c
        | r :: s :: t, _ =>
          have : R = none := by rw [← hR, eC]
          rw [this] at hq; exact hq
      · have hm := sn.mp c1
        have n0 : n = 0 := by have := ht.mp k1; injection this with this; omega
        have hc : (hasM (TL.tl z) && decide (n = 0)) = true := by rw [← em, hm, decide_eq_true n0]; rfl
        have : R = none := by
          rw [← hR, eC]
          match ps with
          | [] => show (digN p).bind _ = _; rw [e1, Option.bind_some, if_pos hc]
          | [r] => show (digN p).bind _ = _; rw [e1, Option.bind_some, if_pos hc]
          | r :: s :: t => rfl
        rw [this] at hq; exact hq
      · refine rest (fun z => ?_) (by rw [ln] at c; omega)
        have n0 := of_decide_eq_true (Bool.and_eq_true_iff.mp z).2
        rw [ht.mpr (by rw [n0]; rfl)] at k1; cases k1
      · intro z
        exact c1 (sn.mpr (by rw [em]; exact (Bool.and_eq_true_iff.mp z).1))
      · rw [ln] at c; omega
  refine ⟨_, rfl, _, rfl, (1 : Int), rfl, z, rfl, sz16 (by omega), ?_⟩
  rw [cutS_one]
  refine .inl ⟨ut.ok 8, uni_minus.ok 8, fun t ht => ⟨t, rfl, ite_b (fun c => ?_) (fun c => ?_)⟩⟩
  · have hm : hasM (TL.tl z) = true := (take_minus _).mp (by
      have := ht.mp c
      injection this with this
      exact str_eq.mp this)
    refine ⟨_, rfl, (1 : Int), rfl, z, rfl, sz16 (by omega), ?_⟩
    have ec : cutS z (some 1) none = mkS (strip (TL.tl z)) := by
      have := cutS_tail (p := TL.tl z) (hasM_pos hm)
      rw [mkS_tl] at this
      rw [this]; unfold strip; rw [if_pos hm]
    rw [ec]
    exact next true hm.symm
  · have hm : hasM (TL.tl z) = false := by
      cases e : hasM (TL.tl z) with
      | false => rfl
      | true =>
        have := ht.mpr (by rw [(take_minus _).mpr e]; rfl)
        rw [this] at c; cases c
    have e : z = mkS (strip (TL.tl z)) := by unfold strip; rw [if_neg (by rw [hm]; decide), mkS_tl]
    have := next false hm.symm
    rw [← e] at this
    exact this
def sp_law_fits_2a01 : DSp := fun ds M Q _ => ∃ z : Str, ds = [.str z] ∧ Uni z ∧ z.length ≤ 1000 ∧ Q (.bl true) M
def w_law_fits_2a01 (B : Addr) : DSt :=
  (dSeq (dSet 1 (dCall sp_law_read (dCons (dVar 0) dNil)))
  (dSeq (dTryF B "text" 2 (fun E =>
  (dSet 3 (dCallX (sp_Ratio_of B) E (dCons (dVar 0) dNil))))
  (fun a y => (dRet (dAndV (dOp rIsN (dVar 1) (dC .non)) (dAndV (dOp rEqP (dErrF y (dVar 2) a) (dVar 0)) (dIsE (dVar 2) a true))))))
  (dRet (dAndV (dOp rNotN (dVar 1) (dC .non)) (dCall sp_law_is (dCons (dVar 3) (dCons (dVar 1) dNil)))))))
theorem rd_law_fits_2a01 (B : Addr) (ds M Q E) (h : sp_law_fits_2a01 ds M Q E) : w_law_fits_2a01 B { nx := fun _ M' => Q .non M', rt := Q } (startD 4 ds) M := by
  obtain ⟨z, rfl, hu, hl, hq⟩ := h
  refine ⟨_, rfl, z, rfl, hu, hl, ?_⟩
  refine ⟨_, rfl, z, rfl, hu, hl, fun e => ?_, fun q e => ?_⟩
  · rw [read_eq] at e
    rw [e]
    refine ⟨rfl, .str z, rfl, rfl, rfl, fun a => ?_⟩
    refine ⟨_, rfl, rfl, true, rfl, ite_t ⟨_, rfl, rfl, _, rfl, .inl ⟨hu.ok 8, hu.ok 8, fun t ht => ?_⟩⟩⟩
    rw [ht.mpr rfl]
    exact ⟨true, rfl, ite_t ⟨_, rfl, rfl, hq⟩⟩
  · rw [read_eq] at e
    rw [e]
    refine ⟨_, rfl, rfl, true, rfl, ite_t ⟨_, rfl, _, rfl, q, q, rfl, ?_⟩⟩
    rw [decide_eq_true rfl]; exact hq
def sp_law_pair_e2e7 : DSp := fun ds M Q _ => ∃ a b : Int, ds = [.int a, .int b] ∧ 0 < b ∧ b.natAbs < 2 ^ 8192 ∧ Q (pairD (Rat.divInt a b)) M
def w_law_pair_e2e7 : DSt :=
  (dSeq (dSet 2 (dCall sp_law_common (dCons (dCB rAbsI (dCons (dVar 0) dNil)) (dCons (dVar 1) dNil))))
  (dRet (dCB rTup (dCons (dOp rFdiv (dVar 0) (dVar 2)) (dCons (dOp rFdiv (dVar 1) (dVar 2)) dNil)))))
theorem rd_law_pair_e2e7 (ds M Q E) (h : sp_law_pair_e2e7 ds M Q E) : w_law_pair_e2e7 { nx := fun _ M' => Q .non M', rt := Q } (startD 3 ds) M := by
  obtain ⟨a, b, rfl, hb, hz, hq⟩ := h
  have hbn : b ≠ 0 := by omega
  have hab : (if a < 0 then -a else a) = (a.natAbs : Int) := by split <;> omega
  have cm : comm a b = ((Nat.gcd a.natAbs b.natAbs : Nat) : Int) := if_neg (by omega)
  have cf : ∀ x : Int, CFd x (comm a b) := fun x => ⟨comm_ne hbn, by
    have h1 : (comm a b).natAbs < 2 ^ 8192 := Nat.lt_of_le_of_lt (comm_le hbn) hz
    have h2 : (comm a b).natAbs ≠ 0 := by have := comm_ne (a := a) hbn; omega
    exact Nat.lt_of_lt_of_le ((Nat.log2_lt h2).mpr h1) (by decide)⟩
  refine ⟨_, rfl, a, rfl, _, rfl, (a.natAbs : Int), b, by rw [hab], by omega, by omega, ?_, ?_⟩
  · exact Nat.lt_of_le_of_lt (intBits_le_iff.mpr hz) (by decide)
  · rw [Int.natAbs_natCast, ← cm]
    refine ⟨_, rfl, _, rfl, cf a, _, rfl, _, rfl, cf b, sz16 (show 2 ≤ 1000000 by decide), ?_⟩
    show Q (.tup [.int (a.fdiv (comm a b)), .int (b.fdiv (comm a b))]) M
    rw [init_num hbn, init_den hbn]
    exact hq
def TapeOk (ts : List Int) : Prop := ts.length ≤ 2520 ∧ ∀ t, t ∈ ts → 0 ≤ t ∧ t < 2147483648
def dInts (ts : List Int) : List D := ts.map D.int
theorem tape_app {ts : List Int} {n : Nat} {t : Int} (h : ts.length ≤ n ∧ ∀ t, t ∈ ts → 0 ≤ t ∧ t < 2147483648) (h0 : 0 ≤ t) (h1 : t < 2147483648) : (ts ++ [t]).length ≤ n + 1 ∧ ∀ u, u ∈ ts ++ [t] → 0 ≤ u ∧ u < 2147483648 := by
  refine ⟨by rw [List.length_append, List.length_singleton]; omega, fun u hu => ?_⟩
  rcases List.mem_append.mp hu with hu | hu
  · exact h.2 u hu
  · rw [List.mem_singleton.mp hu]; exact ⟨h0, h1⟩
theorem dInts_app (ts : List Int) (t : Int) : dInts ts ++ [.int t] = dInts (ts ++ [t]) := by unfold dInts; rw [List.map_append]; rfl
/-- the law's state at st: a tape and a place; b: the place is at most b -/
def Lw (st : Addr) (b : Nat) (M : Mem) : Prop := ∃ (ts : List Int) (k : Int), TapeOk ts ∧ 0 ≤ k ∧ k ≤ b ∧ M st = some (.lst [.lst (dInts ts), .int k])
/-- but at st all is as it was -/
def Off (st : Addr) (M M' : Mem) : Prop := ∀ a, a ≠ st → M' a = M a
theorem Off.refl {st M} : Off st M M := fun _ _ => rfl
theorem Off.trans {st M M1 M2} (a : Off st M M1) (b : Off st M1 M2) : Off st M M2 := fun x h => (b x h).trans (a x h)
theorem Lw.mono {st b c M} (h : Lw st b M) (hbc : b ≤ c) : Lw st c M := let ⟨ts, k, t, h0, h1, e⟩ := h; ⟨ts, k, t, h0, by omega, e⟩
theorem at_mem {α : Type} {xs : List α} {k : Int} (h0 : 0 ≤ k) (h1 : k < xs.length) : ∃ d, atI xs k = some d ∧ d ∈ xs := by
  have hk : k.toNat < xs.length := by omega
  exact ⟨xs[k.toNat], atI_nn h0 (List.getElem?_eq_getElem hk), List.getElem_mem hk⟩
theorem rngD_len (j : Int) : (rngD 0 j).length = j.toNat := by unfold rngD; simp
def sp_law_draw_e832 : DSp := fun ds M Q _ => ∃ (ts : List Int) (k m : Int), ds = [.lst (dInts ts), .int k, .int m] ∧ TapeOk ts ∧ 0 ≤ k ∧ k < 2 ^ 60 ∧ 0 < m ∧ ∀ n : Int, 0 ≤ n → n < m → Q (.int n) M
def w_law_draw_e832 : DSt :=
  (dSeq (dIf (dTst (dOp rLt (dVar 1) (dCB rLen (dCons (dVar 0) dNil))))
  (dRet (dOp rMod (dCB rInt (dCons (dOp rIxD (dVar 0) (dVar 1)) dNil)) (dVar 2)))
  dNext)
  (dSeq (dSet 3 (dC (.int 1)))
  (dSeq (dIf (dTst (dOp rGt (dCB rLen (dCons (dVar 0) dNil)) (dC (.int 0))))
  (dSet 3 (dOp rIxD (dVar 0) (dOp rMod (dCB rInt (dCons (dVar 1) dNil)) (dCB rLen (dCons (dVar 0) dNil)))))
  dNext)
  (dRet (dOp rMod (dOp rMod (dCB rInt (dCons (dOp rAddP (dOp rMulI (dOp rMulI (dOp rAddP (dVar 3) (dVar 1)) (dOp rAddP (dVar 1) (dC (.int 3)))) (dC (.int 7919))) (dOp rMulI (dVar 1) (dC (.int 104729)))) dNil)) (dC (.int 65521))) (dVar 2))))))
theorem at_ints {ts : List Int} {k : Int} (h0 : 0 ≤ k) (h1 : k < ts.length) (ht : TapeOk ts) : ∃ t, atI (dInts ts) k = some (.int t) ∧ 0 ≤ t ∧ t < 2147483648 := by
  have hk : k.toNat < ts.length := by omega
  refine ⟨ts[k.toNat], atI_nn h0 ?_, ht.2 _ (List.getElem_mem hk)⟩
  unfold dInts
  rw [List.getElem?_map, List.getElem?_eq_getElem hk]
  rfl
theorem rd_law_draw_e832 (ds M Q E) (h : sp_law_draw_e832 ds M Q E) : w_law_draw_e832 { nx := fun _ M' => Q .non M', rt := Q } (startD 4 ds) M := by
  obtain ⟨ts, k, m, rfl, ht, h0, h1, hm, hq⟩ := h
  have hlen : ((dInts ts).length : Int) = ts.length := by unfold dInts; rw [List.length_map]
  have fin : ∀ z : Int, Q (.int (z.fmod m)) M := fun z => by
    rw [fmod_pos hm]
    exact hq _ (Int.emod_nonneg _ (by omega)) (Int.emod_lt_of_pos _ hm)
  refine ⟨_, rfl, _, rfl, _, _, rfl, rfl, trivial, _, rfl, ite_d (fun hlt => ?_) (fun hge => ?_)⟩
  · obtain ⟨t, e, _⟩ := at_ints h0 (by rw [hlen] at hlt; exact hlt) ht
    exact ⟨_, rfl, _, rfl, k, rfl, _, e, .inl ⟨_, rfl, _, rfl, by omega, fin _⟩⟩
  · have tail : ∀ u : Int, 0 ≤ u → u < 2147483648 → (dRet (dOp rMod (dOp rMod (dCB rInt (dCons (dOp rAddP (dOp rMulI (dOp rMulI (dOp rAddP (dVar 3) (dVar 1)) (dOp rAddP (dVar 1) (dC (.int 3)))) (dC (.int 7919))) (dOp rMulI (dVar 1) (dC (.int 104729)))) dNil)) (dC (.int 65521))) (dVar 2)))
        { nx := fun _ M' => Q .non M', rt := Q } [some (.lst (dInts ts)), some (.int k), some (.int m), some (.int u)] M := by
      intro u hu0 hu1
      exact ⟨_, rfl, _, rfl, _, rfl, mulL (by omega) (by omega), mulR (by decide) (by decide), _, rfl, mulR (by decide) (by decide), .inl ⟨_, rfl, (by decide : (65521 : Int) ≠ 0), _, rfl, by omega, fin _⟩⟩
    refine ⟨_, rfl, _, _, rfl, rfl, trivial, _, rfl, ite_d (fun hpos => ?_) (fun _ => ?_)⟩
    · refine ⟨_, rfl, _, rfl, .inl ⟨_, rfl, _, rfl, _, _, rfl, rfl, ?_, _, rfl, ?_⟩⟩
      · show ((dInts ts).length : Int) ≠ 0
        have : (0 : Int) < (dInts ts).length := hpos
        omega
      · have hp : (0 : Int) < (dInts ts).length := hpos
        rw [fmod_pos hp]
        obtain ⟨t, e, h2, h3⟩ := at_ints (Int.emod_nonneg k (show ((dInts ts).length : Int) ≠ 0 by omega)) (by have := Int.emod_lt_of_pos k hp; rw [hlen] at this ⊢; exact this) ht
        exact ⟨_, e, tail t h2 h3⟩
    · exact tail 1 (by decide) (by decide)
def sp_law_take_65a1 : DSp := fun ds M Q _ => ∃ (st : Addr) (b : Nat) (m : Int), ds = [.ref st, .int m] ∧ Lw st b M ∧ b ≤ 1000000000 ∧ 0 < m ∧ ∀ (n : Int) M', 0 ≤ n → n < m → Lw st (b + 1) M' → Off st M M' → Q (.int n) M'
def w_law_take_65a1 : DSt :=
  (dSeq (dAsg (dOp rAddP (dOp rIxD (dVar 0) (dC (.int 1))) (dC (.int 1))) (gSb (dVar 0) (dC (.int 1))))
  (dRet (dCall sp_law_draw_e832 (dCons (dOp rIxD (dVar 0) (dC (.int 0))) (dCons (dOp rIxD (dVar 0) (dC (.int 1))) (dCons (dVar 1) dNil))))))
theorem rd_law_take_65a1 (ds M Q E) (h : sp_law_take_65a1 ds M Q E) : w_law_take_65a1 { nx := fun _ M' => Q .non M', rt := Q } (startD 2 ds) M := by
  obtain ⟨st, b, m, rfl, ⟨ts, k, ht, h0, h1, e⟩, hb, hm, hq⟩ := h
  refine ⟨_, rfl, 1, rfl, _, _, e, rfl, _, rfl, st, _, 1, 1, rfl, rfl, e, rfl, ?_⟩
  rw [show ([D.lst (dInts ts), D.int k].set 1 (D.int (k + 1))) = [.lst (dInts ts), .int (k + 1)] from rfl]
  refine ⟨_, rfl, 0, rfl, _, _, mput_same, rfl, _, rfl, 1, rfl, _, _, mput_same, rfl, _, rfl, ts, k + 1, m, rfl, ht, by omega, by omega, hm, fun n h2 h3 => ?_⟩
  exact hq n _ h2 h3 ⟨ts, k + 1, ht, by omega, by omega, mput_same⟩ fun a ha => mput_ne ha
theorem take_at {i : Nat} {δ : DS0} {st : Addr} {b : Nat} {m : Int} {M : Mem} {Q : DK} (hi : δ[i]? = some (some (.ref st))) (hL : Lw st b M) (hm : 0 < m) (hb : b ≤ 1000000000) (k : ∀ (n : Int) M', 0 ≤ n → n < m → Lw st (b + 1) M' → Off st M M' → Q (.int n) M') : dCall sp_law_take_65a1 (dCons (dVar i) (dCons (dC (.int m)) dNil)) δ M Q := ⟨_, hi, st, b, m, rfl, hL, hb, hm, k⟩
def sp_law_changed_9afa : DSp := fun ds M Q _ => ∃ (st : Addr) (b : Nat) (z : Str) (q : Rat), ds = [.ref st, .str z, pairD q] ∧ Lw st b M ∧ b ≤ 1000 ∧ Uni z ∧ z.length ≤ 300 ∧ Bt 200 q ∧ ∀ z' M', Uni z' → z'.length ≤ 1000 → Lw st (b + 10) M' → Q (.str z') M'
theorem app_len (x y : Str) : (x ++ y).length = x.length + y.length := by rw [TL.len_tl, TL.tl_append, List.length_append, ← TL.len_tl, ← TL.len_tl]
theorem Uni.app {x y : Str} (h1 : Uni x) (h2 : Uni y) : Uni (x ++ y) := fun c hc => by
  rw [TL.tl_append] at hc
  rcases List.mem_append.mp hc with h | h
  · exact h1 c h
  · exact h2 c h
theorem uni_small {x : Str} (h : (TL.tl x).all (fun c => decide (c < 1114112)) = true) : Uni x := fun c hc => of_decide_eq_true (List.all_eq_true.mp h c hc)
theorem cutS_ok {z : Str} (h : Uni z) (lo hi : Option Int) : Uni (cutS z lo hi) ∧ (cutS z lo hi).length ≤ z.length := by
  rw [cutS_eq]
  refine ⟨fun c hc => h c (List.mem_of_mem_drop (List.mem_of_mem_take hc)), ?_⟩
  rw [len_mkS, List.length_take, List.length_drop]
  have : (TL.tl z).length = z.length := rfl
  omega
theorem int_ok {i : Int} (h : i.natAbs ≤ 2 ^ 300) : Uni (Str.ofString (toString i)) ∧ (Str.ofString (toString i)).length ≤ 101 := by
  have l := sgL_len h
  refine ⟨fun c hc => ?_, ?_⟩
  · rw [tl_int] at hc; have := sgL_uni i c hc; omega
  · rw [TL.len_tl, tl_int]; exact l.1
def w_law_changed_9afa : DSt :=
  (dSeq (dSet 3 (dCall sp_law_take_65a1 (dCons (dVar 0) (dCons (dC (.int 11)) dNil))))
  (dSeq (dIf (dTst (dOp rLtA (dVar 3) (dC (.int 3))))
  (dRet (dOp rAdd (dOp rIxD (dCB rLstV (dCons (dC (.str "+")) (dCons (dC (.str "-")) (dCons (dC (.str "0")) dNil)))) (dVar 3)) (dVar 1)))
  dNext)
  (dSeq (dIf (dTst (dOp rLtA (dVar 3) (dC (.int 5))))
  (dRet (dOp rAdd (dVar 1) (dOp rIxD (dCB rLstV (dCons (dC (.str "/1")) (dCons (dC (.str "/7")) dNil))) (dOp rSub (dVar 3) (dC (.int 3))))))
  dNext)
  (dSeq (dIf (dTst (dOp rEqA (dVar 3) (dC (.int 5))))
  (dSeq (dSet 6 (dOp rAdd (dC (.int 1)) (dCall sp_law_take_65a1 (dCons (dVar 0) (dCons (dC (.int 5)) dNil)))))
  (dRet (dOp rAdd (dOp rAdd (dCB rStrI (dCons (dOp rMul (dOp rIxD (dVar 2) (dC (.int 0))) (dVar 6)) dNil)) (dC (.str "/"))) (dCB rStrI (dCons (dOp rMul (dOp rIxD (dVar 2) (dC (.int 1))) (dVar 6)) dNil)))))
  dNext)
  (dSeq (dIf (dTst (dOp rEqA (dVar 3) (dC (.int 6))))
  (dRet (dOp rAdd (dOp rIxD (dCB rLstV (dCons (dC (.str "")) (dCons (dC (.str "-")) (dCons (dC (.str "1/")) (dCons (dC (.str "-5/")) dNil))))) (dCall sp_law_take_65a1 (dCons (dVar 0) (dCons (dC (.int 4)) dNil)))) (dOp rMulS (dC (.str "7")) (dOp rAdd (dC (.int 7)) (dCall sp_law_take_65a1 (dCons (dVar 0) (dCons (dC (.int 5)) dNil)))))))
  dNext)
  (dSeq (dSet 4 (dCall sp_law_take_65a1 (dCons (dVar 0) (dCons (dOp rAdd (dCB rLen (dCons (dVar 1) dNil)) (dC (.int 1))) dNil))))
  (dSeq (dSet 5 (dOp rIxD (dC (.str "0123456789/-+ ._eE,x")) (dCall sp_law_take_65a1 (dCons (dVar 0) (dCons (dC (.int 20)) dNil)))))
  (dRet (dOp rAdd (dOp rAdd (dSlS (dVar 1) dNoPart (dPart (dVar 4))) (dOp rIxD (dCB rLstV (dCons (dVar 5) (dCons (dVar 5) (dCons (dC (.str "")) dNil)))) (dCall sp_law_take_65a1 (dCons (dVar 0) (dCons (dC (.int 3)) dNil))))) (dSlS (dVar 1) (dPart (dOp rAdd (dVar 4) (dCB rInt (dCons (dOp rGtA (dVar 3) (dC (.int 8))) dNil)))) dNoPart))))))))))
theorem rd_law_changed_9afa (ds M Q E) (h : sp_law_changed_9afa ds M Q E) : w_law_changed_9afa { nx := fun _ M' => Q .non M', rt := Q } (startD 7 ds) M := by
  obtain ⟨st, b, z, q, rfl, hL, hb, hu, hl, bq, hq⟩ := h
  have one : ∀ (xs : List Str) (k : Int), 0 ≤ k → k < xs.length → (∀ x, x ∈ xs → Uni x ∧ x.length ≤ 4) → ∃ s, atI (xs.map D.str) k = some (.str s) ∧ Uni s ∧ s.length ≤ 4 := fun xs k h0 h1 hx => by
    have e : xs[k.toNat]? = some xs[k.toNat] := List.getElem?_eq_getElem (by omega)
    exact ⟨_, atI_nn h0 (by rw [List.getElem?_map, e]; rfl), hx _ (List.getElem_mem _)⟩
  have sm : ∀ n : Nat, n ≤ 1000 → n ≤ sizeLine := fun n h => sz16 (by omega)
  refine take_at rfl hL (by decide) (by omega) fun w M1 w0 w11 hL1 hO1 => ?_
  refine ⟨_, rfl, trivial, _, rfl, ite_d (fun c => ?_) (fun c => ?_)⟩
  · obtain ⟨s, es, us, ls⟩ := one ["+", "-", "0"] w w0 c (fun x hx => by
      simp only [List.mem_cons, List.not_mem_nil, or_false] at hx
      rcases hx with rfl | rfl | rfl <;> exact ⟨uni_small (by decide +kernel), by decide +kernel⟩)
    exact ⟨sz16 (show 3 ≤ 1000000 by decide), _, rfl, w, rfl, _, es, _, rfl, sm _ (by omega), hq _ _ (us.app hu) (by rw [app_len]; omega) (hL1.mono (by omega))⟩
  refine ⟨_, rfl, trivial, _, rfl, ite_d (fun c2 => ?_) (fun c2 => ?_)⟩
  · obtain ⟨s, es, us, ls⟩ := one ["/1", "/7"] (w - 3) (by omega) (by show w - 3 < 2; omega) (fun x hx => by
      simp only [List.mem_cons, List.not_mem_nil, or_false] at hx
      rcases hx with rfl | rfl <;> exact ⟨uni_small (by decide +kernel), by decide +kernel⟩)
    exact ⟨_, rfl, sz16 (show 2 ≤ 1000000 by decide), _, rfl, trivial, w - 3, rfl, _, es, sm _ (by omega), hq _ _ (hu.app us) (by rw [app_len]; omega) (hL1.mono (by omega))⟩
  refine ⟨_, rfl, .inl ⟨rfl, rfl, fun t ht => ⟨t, rfl, ite_b (fun k1 => ?_) (fun k1 => ?_)⟩⟩⟩
  · refine take_at rfl hL1 (by decide) (by omega) fun x M2 x0 x5 hL2 hO2 => ?_
    have b1 : (q.num * (1 + x)).natAbs ≤ 2 ^ 300 := by
      rw [Int.natAbs_mul]
      exact Nat.le_trans (Nat.mul_le_mul bq.1 (show (1 + x).natAbs ≤ 2 ^ 3 by omega)) (by rw [← Nat.pow_add]; exact Nat.pow_le_pow_right (by decide) (by decide))
    have b2 : ((q.den : Int) * (1 + x)).natAbs ≤ 2 ^ 300 := by
      rw [Int.natAbs_mul, Int.natAbs_natCast]
      exact Nat.le_trans (Nat.mul_le_mul bq.2 (show (1 + x).natAbs ≤ 2 ^ 3 by omega)) (by rw [← Nat.pow_add]; exact Nat.pow_le_pow_right (by decide) (by decide))
    have u1 := int_ok b1
    have u2 := int_ok b2
    have us : Uni "/" := uni_small (by decide +kernel)
    have ls : ("/" : Str).length = 1 := by decide +kernel
    refine ⟨_, rfl, (0 : Int), rfl, _, atI_nn (by decide) rfl, _, rfl, mulR (by omega) (by omega), _, rfl, (sgL_len b1).2, sm _ (by omega), _, rfl, (1 : Int), rfl, _, atI_nn (by decide) rfl, _, rfl, mulR (by omega) (by omega), _, rfl, (sgL_len b2).2, sm _ (by rw [app_len]; omega), ?_⟩
    exact hq _ _ ((u1.1.app us).app u2.1) (by rw [app_len, app_len]; omega) (hL2.mono (by omega))
  refine ⟨_, rfl, .inl ⟨rfl, rfl, fun t2 ht2 => ⟨t2, rfl, ite_b (fun k2 => ?_) (fun k2 => ?_)⟩⟩⟩
  · refine ⟨sz16 (show 4 ≤ 1000000 by decide), take_at rfl hL1 (by decide) (by omega) fun x M2 x0 x4 hL2 hO2 => ?_⟩
    obtain ⟨s, es, us, ls⟩ := one ["", "-", "1/", "-5/"] x x0 x4 (fun x hx => by
      simp only [List.mem_cons, List.not_mem_nil, or_false] at hx
      rcases hx with rfl | rfl | rfl | rfl <;> exact ⟨uni_small (by decide +kernel), by decide +kernel⟩)
    refine ⟨x, rfl, _, es, take_at rfl hL2 (by decide) (by omega) fun y M3 y0 y5 hL3 hO3 => ?_⟩
    have key : ∀ n : Int, n = 7 ∨ n = 8 ∨ n = 9 ∨ n = 10 ∨ n = 11 → PySem.MulOk "7" n ∧ Uni (Txt.mul "7" n) ∧ (Txt.mul "7" n).length ≤ 11 := fun n hn => by
      rcases hn with rfl | rfl | rfl | rfl | rfl <;> exact ⟨⟨by decide +kernel, by decide +kernel, by decide +kernel⟩, uni_small (by decide +kernel), by decide +kernel⟩
    obtain ⟨m1, m2, m3⟩ := key (7 + y) (by omega)
    exact ⟨"7", 7 + y, rfl, rfl, m1, sm _ (by omega), hq _ _ (us.app m2) (by rw [app_len]; omega) (hL3.mono (by omega))⟩
  have hz : (0 : Int) < ((z.length : Nat) : Int) + 1 := by omega
  refine ⟨_, rfl, _, rfl, .str z, z.length, rfl, ⟨sm _ (by omega), rfl⟩, st, _, _, rfl, hL1, by omega, hz, fun at_ M2 a0 a1 hL2 hO2 => ?_⟩
  refine take_at rfl hL2 (by decide) (by omega) fun x M3 x0 x20 hL3 hO3 => ?_
  have l20 : ("0123456789/-+ ._eE,x" : Str).cps.toList.length = 20 := by decide +kernel
  obtain ⟨c20, ec, mc⟩ := at_mem (xs := ("0123456789/-+ ._eE,x" : Str).cps.toList) x0 (by rw [l20]; exact x20)
  have uc : Uni ⟨#[c20]⟩ := fun d hd => by
    have : d = c20 := by simpa [TL.tl] using hd
    rw [this]
    have all : ∀ c, c ∈ ("0123456789/-+ ._eE,x" : Str).cps.toList → c < 1114112 := uni_small (x := "0123456789/-+ ._eE,x") (by decide +kernel)
    exact all _ mc
  refine ⟨x, rfl, sz16 (by decide +kernel), c20, ec, ?_⟩
  refine ⟨_, rfl, _, rfl, at_, rfl, z, rfl, sm _ (by omega), _, rfl, _, rfl, sz16 (show 3 ≤ 1000000 by decide), take_at rfl hL3 (by decide) (by omega) fun y M4 y0 y3 hL4 hO4 => ?_⟩
  obtain ⟨s, es, us, ls⟩ := one [⟨#[c20]⟩, ⟨#[c20]⟩, ""] y y0 y3 (fun x hx => by
      simp only [List.mem_cons, List.not_mem_nil, or_false] at hx
      rcases hx with rfl | rfl | rfl
      · exact ⟨uc, by show 1 ≤ 4; decide⟩
      · exact ⟨uc, by show 1 ≤ 4; decide⟩
      · exact ⟨uni_small (by decide +kernel), by decide +kernel⟩)
  obtain ⟨v1, v2⟩ := cutS_ok hu none (some at_)
  refine ⟨y, rfl, _, es, sm _ (by omega), _, rfl, _, rfl, _, rfl, trivial, .inr ⟨_, rfl, _, rfl, z, rfl, sm _ (by omega), ?_⟩⟩
  obtain ⟨v3, v4⟩ := cutS_ok hu (some (at_ + if decide (8 < w) = true then 1 else 0)) none
  exact ⟨sm _ (by rw [app_len]; omega), hq _ _ ((v1.app us).app v3) (by rw [app_len, app_len]; omega) (hL4.mono (by omega))⟩
def sp_law_tape : DSp := fun ds M Q _ => ∃ ns : List Int, ds = [.scr (dInts ns)] ∧ ns.length ≤ 63 ∧ ∀ ts, TapeOk ts → Q (.lst (dInts ts)) M
def w_law_tape : DSt :=
  (dSeq (dSet 1 (dCB rLstR dNil))
  (dSeq (dFor (dIt (dVar 0)) (gNm 2)
  (dSeq (dSet 3 (dOp rMulI (dC (.int 2)) (dCB rInt (dCons (dVar 2) dNil))))
  (dSeq (dIf (dTst (dOp rLt (dVar 3) (dC (.int 0))))
  (dSet 3 (dOp rSubI (dUn rNeg (dC (.int 1))) (dVar 3)))
  dNext)
  (dIf (dTst (dOp rGe (dVar 3) (dOp rPow (dC (.int 10)) (dC (.int 18)))))
  (dFor (dRng1 (dCons (dC (.int 40)) dNil)) (gNm 4)
  (dIf (dTst (dOp rGt (dVar 3) (dC (.int 0))))
  (dSeq (dDrop (dApp (dVar 1) (dCons (dOp rMod (dCB rInt (dCons (dVar 3) dNil)) (dC (.int 1000))) dNil)))
  (dSet 3 (dOp rFdiv (dVar 3) (dC (.int 1000)))))
  dNext))
  (dFor (dRng1 (dCons (dC (.int 3)) dNil)) (gNm 4)
  (dSeq (dSet 5 (dOp rMod (dCB rInt (dCons (dOp rAddP (dOp rAddP (dOp rMulI (dVar 3) (dC (.int 48271))) (dOp rMulI (dVar 4) (dC (.int 40503)))) (dC (.int 11))) dNil)) (dC (.int 2147483629))))
  (dDrop (dApp (dVar 1) (dCons (dOp rMod (dCB rInt (dCons (dOp rAddP (dOp rMulI (dVar 5) (dC (.int 69621))) (dOp rFdiv (dVar 5) (dC (.int 65536)))) dNil)) (dC (.int 2147483629))) dNil)))))))))
  (dRetF (dVar 1))))
theorem rd_law_tape (ds M Q E) (h : sp_law_tape ds M Q E) : w_law_tape { nx := fun _ M' => Q .non M', rt := Q } (startD 6 ds) M := by
  obtain ⟨ns, rfl, hl, hq⟩ := h
  refine ⟨Nat.zero_le _, fun p hp => ?_⟩
  refine ⟨_, rfl, ?_⟩
  refine dLoop_ind (fun rest δ M1 => ∃ (ts : List Int) (a3 a4 a5 a2 : Option D) (ks : List Int) (n : Nat), rest = dInts ks ∧ n + ks.length ≤ 63 ∧ δ = [some (.scr (dInts ns)), some (.ref p), a2, a3, a4, a5] ∧ M1 = mput M p (.lst (dInts ts)) ∧ (ts.length ≤ 40 * n ∧ ∀ t, t ∈ ts → 0 ≤ t ∧ t < 2147483648)) ?_ ?_ _ _ _
    ⟨[], none, none, none, none, ns, 0, rfl, by omega, rfl, rfl, by simp, by simp⟩
  · rintro x xs δ M1 K hK ⟨ts, a3, a4, a5, a2, ks, n, e, hn, rfl, rfl, ht⟩
    refine ⟨trivial, ?_⟩
    obtain ⟨c, ks, rfl⟩ : ∃ c r, ks = c :: r := by
      cases ks with
      | nil => cases e
      | cons c r => exact ⟨c, r, rfl⟩
    injection e with e1 e2
    subst e1; subst e2
    have hn' : n + 1 + ks.length ≤ 63 := by rw [List.length_cons] at hn; omega
    -- number = 2 * int(cell)
    refine ⟨_, rfl, .inl ⟨_, rfl, mulL (by decide) (by decide), ?_⟩⟩
    -- behind the fold of the sign
    have go : ∀ z : Int, 0 ≤ z → (dIf (dTst (dOp rGe (dVar 3) (dOp rPow (dC (.int 10)) (dC (.int 18)))))
        (dFor (dRng1 (dCons (dC (.int 40)) dNil)) (gNm 4)
          (dIf (dTst (dOp rGt (dVar 3) (dC (.int 0))))
            (dSeq (dDrop (dApp (dVar 1) (dCons (dOp rMod (dCB rInt (dCons (dVar 3) dNil)) (dC (.int 1000))) dNil)))
              (dSet 3 (dOp rFdiv (dVar 3) (dC (.int 1000)))))
            dNext))
        (dFor (dRng1 (dCons (dC (.int 3)) dNil)) (gNm 4)
          (dSeq (dSet 5 (dOp rMod (dCB rInt (dCons (dOp rAddP (dOp rAddP (dOp rMulI (dVar 3) (dC (.int 48271))) (dOp rMulI (dVar 4) (dC (.int 40503)))) (dC (.int 11))) dNil)) (dC (.int 2147483629))))
            (dDrop (dApp (dVar 1) (dCons (dOp rMod (dCB rInt (dCons (dOp rAddP (dOp rMulI (dVar 5) (dC (.int 69621))) (dOp rFdiv (dVar 5) (dC (.int 65536)))) dNil)) (dC (.int 2147483629))) dNil))))))
        { nx := K, rt := Q, bk := fun δ M1 => dRetF (dVar 1) { nx := fun _ M' => Q .non M', rt := Q } δ M1, ct := K } [some (.scr (dInts ns)), some (.ref p), some (.int c), some (.int z), a4, a5] (mput M p (.lst (dInts ts))) := by
      intro z hz
      refine ⟨_, rfl, ⟨by decide, by decide, by decide⟩, trivial, _, rfl, ite_d (fun hbig => ?_) (fun hsm => ?_)⟩
      · -- the digits
        refine ⟨40, rfl, by decide, ?_⟩
        refine dLoop_ind (fun rest δ M1 => ∃ (ts : List Int) (z : Int) (a4 a5 : Option D), 0 ≤ z ∧ δ = [some (.scr (dInts ns)), some (.ref p), some (.int c), some (.int z), a4, a5] ∧ M1 = mput M p (.lst (dInts ts)) ∧ (ts.length + rest.length ≤ 40 * n + 40 ∧ ∀ t, t ∈ ts → 0 ≤ t ∧ t < 2147483648)) ?_ ?_ _ _ _
          ⟨ts, z, a4, a5, hz, rfl, rfl, by have := ht.1; show ts.length + 40 ≤ _; omega, ht.2⟩
        · rintro x xs δ M1 K2 hK2 ⟨ts, z, a4, a5, hz, rfl, rfl, ht2⟩
          refine ⟨trivial, ⟨_, rfl, trivial, _, rfl, ite_d (fun h => ?_) (fun h => ?_)⟩⟩
          · refine ⟨_, rfl, ⟨p, dInts ts, rfl, mput_same⟩, _, rfl, .inl ⟨z, rfl, (by decide : (1000 : Int) ≠ 0), p, dInts ts, _, rfl, rfl, mput_same, ?_, ?_⟩⟩
            · unfold dInts; rw [List.length_map]
              exact sz16lt (by have := ht2.1; rw [List.length_cons] at this; omega)
            · refine ⟨_, rfl, cfd_small (by decide) (by decide), ?_⟩
              dsimp only
              rw [fmod_pos (show (0 : Int) < 1000 by decide), fdiv_pos (show (0 : Int) < 1000 by decide), mput_mput, dInts_app]
              have := tape_app (n := 40 * n + 40 - (xs.length + 1)) ⟨by have := ht2.1; rw [List.length_cons] at this; omega, ht2.2⟩ (show 0 ≤ z % 1000 by omega) (show z % 1000 < 2147483648 by omega)
              have h40 := ht2.1
              rw [List.length_cons] at h40
              exact hK2 _ _ ⟨ts ++ [z % 1000], z / 1000, _, a5, by omega, rfl, rfl, by have := this.1; omega, this.2⟩
          · exact hK2 _ _ ⟨ts, z, _, a5, hz, rfl, rfl, by have := ht2.1; rw [List.length_cons] at this; omega, ht2.2⟩
        · rintro δ M1 ⟨ts, z, a4, a5, hz, rfl, rfl, ht2⟩
          exact ⟨trivial, hK _ _ ⟨ts, _, _, _, _, ks, n + 1, rfl, hn', rfl, rfl, by have := ht2.1; simp at this; omega, ht2.2⟩⟩
      · -- three numbers
        have hz18 : z < 1000000000000000000 := by
          have : ¬ (10 : Int) ^ (18 : Int).toNat ≤ z := hsm
          have e : (10 : Int) ^ (18 : Int).toNat = 1000000000000000000 := by decide
          omega
        refine ⟨3, rfl, by decide, ?_⟩
        refine dLoop_ind (fun rest δ M1 => ∃ (ts : List Int) (a4 a5 : Option D), (∀ d, d ∈ rest → ∃ k : Int, d = .int k ∧ 0 ≤ k ∧ k < 3) ∧ δ = [some (.scr (dInts ns)), some (.ref p), some (.int c), some (.int z), a4, a5] ∧ M1 = mput M p (.lst (dInts ts)) ∧ (ts.length + rest.length ≤ 40 * n + 3 ∧ ∀ t, t ∈ ts → 0 ≤ t ∧ t < 2147483648)) ?_ ?_ _ _ _
          ⟨ts, a4, a5, ?_, rfl, rfl, by have := ht.1; show ts.length + 3 ≤ _; omega, ht.2⟩
        · rintro x xs δ M1 K2 hK2 ⟨ts, a4, a5, hr, rfl, rfl, ht2⟩
          obtain ⟨k, rfl, hk0, hk3⟩ := hr x List.mem_cons_self
          refine ⟨trivial, ?_⟩
          refine ⟨_, rfl, mulR (by decide) (by decide), _, rfl, mulR (by decide) (by decide), .inl ⟨_, rfl, (by decide : (2147483629 : Int) ≠ 0), ?_⟩⟩
          refine ⟨_, rfl, ⟨p, dInts ts, rfl, mput_same⟩, _, rfl, mulR (by decide) (by decide), _, rfl, cfd_small (by decide) (by decide), .inl ⟨_, rfl, (by decide : (2147483629 : Int) ≠ 0), p, dInts ts, _, rfl, rfl, mput_same, ?_, ?_⟩⟩
          · unfold dInts; rw [List.length_map]
            exact sz16lt (by have := ht2.1; rw [List.length_cons] at this; omega)
          · dsimp only
            rw [mput_mput, dInts_app]
            simp only [fmod_pos (show (0 : Int) < 2147483629 by decide), fdiv_pos (show (0 : Int) < 65536 by decide)]
            generalize (z * 48271 + k * 40503 + 11) % 2147483629 = u
            have := tape_app (t := (u * 69621 + u / 65536) % 2147483629) (n := 40 * n + 3 - (xs.length + 1)) ⟨by have := ht2.1; rw [List.length_cons] at this; omega, ht2.2⟩ (by omega) (by omega)
            have h40 := ht2.1
            rw [List.length_cons] at h40
            exact hK2 _ _ ⟨_, _, _, fun d hd => hr d (List.mem_cons_of_mem _ hd), rfl, rfl, by have := this.1; omega, this.2⟩
        · rintro δ M1 ⟨ts, a4, a5, hr, rfl, rfl, ht2⟩
          exact ⟨trivial, hK _ _ ⟨ts, _, _, _, _, ks, n + 1, rfl, hn', rfl, rfl, by have := ht2.1; simp at this; omega, ht2.2⟩⟩
        · intro d hd
          obtain ⟨k, hk, rfl⟩ := List.mem_map.mp hd
          have : k < 3 := by simpa using List.mem_range.mp hk
          exact ⟨_, rfl, by omega, by omega⟩
    refine ⟨_, rfl, trivial, _, rfl, ite_d (fun hneg => ?_) (fun hpos => ?_)⟩
    · refine ⟨_, rfl, trivial, go (-1 - 2 * c) ?_⟩
      have : (2 : Int) * c < 0 := hneg
      omega
    · exact go (2 * c) (by have : ¬ (2 : Int) * c < 0 := hpos; omega)
  · rintro δ M1 ⟨ts, a3, a4, a5, a2, ks, n, e, hn, rfl, rfl, ht⟩
    refine ⟨trivial, _, rfl, .inl ⟨p, dInts ts, rfl, mput_same, ?_⟩⟩
    rw [mdel_mput hp]
    exact hq ts ⟨by omega, ht.2⟩
def sp_law_6017 : DSp := fun ds M Q _ => ∃ ns : List Int, ds = [.scr (dInts ns)] ∧ ns.length ≤ 63 ∧ ∀ M', Q (.bl true) M'
theorem gyes3 {j : Nat} {x : D} {δ : DS0} {M : Mem} {te : DE} {K : DK} {F : Mem → Prop} (h : te (δ.set j (some x)) M K) : gNm j x δ M fun δ2 M2 => dYes δ2 M2 fun b M3 => if b = true then te δ2 M3 K else F M3 := ite_t (B := F M) h
theorem ratS_ok {q : Rat} (h : Bt 300 q) : Uni (ratS q) ∧ (ratS q).length ≤ 203 := ⟨fun c hc => by have := (ratL_len h).2 c hc; omega, (ratL_len h).1⟩
theorem ll_app (x y : Str) : (x ++ y).length = x.length + y.length := by rw [TL.len_tl, TL.tl_append, List.length_append, ← TL.len_tl, ← TL.len_tl]
theorem txt_at {i : Nat} {δ : DS0} {q : Rat} {R : DSt} {De : DEnds} {M : Mem} (h6 : 6 < δ.length) (hi : δ[i]? = some (some (pairD q))) (hne : 6 ≠ i) (hb : Bt 300 q) (k : R De (δ.set 6 (some (.str (ratS q)))) M) :
    (dSeq (dSet 6 (dCB (rStrR sp_ratstr) (dCons (dOp rIxD (dVar i) (dC (.int 0))) dNil)))
  (dSeq (dIf (dTst (dOp rNeA (dOp rIxD (dVar i) (dC (.int 1))) (dC (.int 1))))
  (dSet 6 (dOp rAdd (dOp rAdd (dVar 6) (dC (.str "/"))) (dCB (rStrR sp_ratstr) (dCons (dOp rIxD (dVar i) (dC (.int 1))) dNil))))
  dNext) R)) De δ M := by
  have s1 := sgL_len hb.1
  have s2 := sgL_len (i := (q.den : Int)) (by rw [Int.natAbs_natCast]; exact hb.2)
  have e2 : sgL (q.den : Int) = TL.numL q.den := by unfold sgL; rw [if_neg (by omega), Int.natAbs_natCast]
  have t1 := tl_int q.num
  have t2 := tl_int (q.den : Int)
  have l1 : (Str.ofString (toString q.num)).length = (sgL q.num).length := by rw [TL.len_tl, t1]
  have l2 : (Str.ofString (toString (q.den : Int))).length = (sgL (q.den : Int)).length := by rw [TL.len_tl, t2]
  have ls : ("/" : Str).length = 1 := by decide +kernel
  refine ⟨_, hi, (0 : Int), rfl, _, atI_nn (by decide) rfl, .inl ⟨q.num, rfl, s1.2, ?_⟩⟩
  have hi2 : (δ.set 6 (some (D.str (Str.ofString (toString q.num)))))[i]? = some (some (pairD q)) := by rw [List.getElem?_set_ne hne]; exact hi
  refine ⟨_, hi2, (1 : Int), rfl, _, atI_nn (by decide) rfl, .inl ⟨rfl, rfl, fun t ht => ⟨t, rfl, ite_b (fun c => ?_) (fun c => ?_)⟩⟩⟩
  · have e : q.den ≠ 1 := fun z => ht.mp c (by rw [z]; rfl)
    refine ⟨_, List.getElem?_set_self h6, sz16 (by omega), _, hi2, (1 : Int), rfl, _, atI_nn (by decide) rfl, .inl ⟨(q.den : Int), rfl, s2.2, sz16 (by rw [ll_app]; omega), ?_⟩⟩
    have : ((Str.ofString (toString q.num) ++ "/") ++ Str.ofString (toString (q.den : Int)) : Str) = ratS q := str_eq.mpr (by
      rw [TL.tl_append, TL.tl_append, t1, t2, e2]
      show sgL q.num ++ [47] ++ TL.numL q.den = ratL q
      unfold ratL; rw [if_neg e, List.append_assoc]; rfl)
    show R De ((δ.set 6 _).set 6 (some (.str ((Str.ofString (toString q.num) ++ "/") ++ Str.ofString (toString (q.den : Int)))))) M
    rw [this, List.set_set]; exact k
  · have e : q.den = 1 := by
      by_cases z : q.den = 1
      · exact z
      · rw [ht.mpr fun w => z (by injection w with w; omega)] at c; cases c
    have : Str.ofString (toString q.num) = ratS q := str_eq.mpr (by rw [t1]; show _ = ratL q; unfold ratL; rw [if_pos e, List.append_nil])
    rw [this]; exact k
theorem pw10 {k : Int} (h0 : 0 ≤ k) (h1 : k ≤ 1000) : CPow 10 k := ⟨h0, by omega, by decide⟩
def w_law_6017_t1 : DSt :=
  (dSeq (dSet 6 (dCB (rStrR sp_ratstr) (dCons (dOp rIxD (dVar 8) (dC (.int 0))) dNil)))
  (dSeq (dIf (dTst (dOp rNeA (dOp rIxD (dVar 8) (dC (.int 1))) (dC (.int 1))))
  (dSet 6 (dOp rAdd (dOp rAdd (dVar 6) (dC (.str "/"))) (dCB (rStrR sp_ratstr) (dCons (dOp rIxD (dVar 8) (dC (.int 1))) dNil))))
  dNext)
  (dRet (dAndV (dOp rEqA (dCB (rStrR sp_ratstr) (dCons (dMk (dCons (dOp rIxD (dVar 8) (dC (.int 0))) (dCons (dOp rIxD (dVar 8) (dC (.int 1))) dNil))) dNil)) (dVar 6)) (dCall sp_law_fits_2a01 (dCons (dVar 6) dNil))))))
def w_law_6017_t2 : DSt :=
  (dSeq (dSet 7 (dOp rAdd (dOp rAdd (dOp rMul (dOp rIxD (dVar 5) (dC (.int 0))) (dOp rPow (dC (.int 10)) (dC (.int 25)))) (dOp rPow (dC (.int 10)) (dC (.int 24)))) (dCall sp_law_take_65a1 (dCons (dVar 1) (dCons (dC (.int 1000)) dNil)))))
  (dSeq (dSet 8 (dCall sp_law_pair_e2e7 (dCons (dVar 7) (dCons (dOp rAdd (dC (.int 1)) (dOp rMul (dOp rIxD (dVar 5) (dC (.int 1))) (dOp rIxD (dCB rLstV (dCons (dC (.int 1)) (dCons (dOp rPow (dC (.int 10)) (dC (.int 9))) (dCons (dOp rPow (dC (.int 10)) (dC (.int 18))) dNil)))) (dCall sp_law_take_65a1 (dCons (dVar 1) (dCons (dC (.int 3)) dNil)))))) dNil))))
  w_law_6017_t1))
def w_law_6017_t3 : DSt :=
  (dSeq (dFor (dRng1 (dCons (dC (.int 4)) dNil)) (gNm 4)
  (dIf (dNot (dTru (dCall sp_law_fits_2a01 (dCons (dCall sp_law_changed_9afa (dCons (dVar 1) (dCons (dVar 6) (dCons (dVar 5) dNil)))) dNil))))
  (dRet (dC (.bl false)))
  dNext))
  w_law_6017_t2)
def w_law_6017_t4 : DSt :=
  (dSeq (dSet 6 (dCB (rStrR sp_ratstr) (dCons (dOp rIxD (dVar 5) (dC (.int 0))) dNil)))
  (dSeq (dIf (dTst (dOp rNeA (dOp rIxD (dVar 5) (dC (.int 1))) (dC (.int 1))))
  (dSet 6 (dOp rAdd (dOp rAdd (dVar 6) (dC (.str "/"))) (dCB (rStrR sp_ratstr) (dCons (dOp rIxD (dVar 5) (dC (.int 1))) dNil))))
  dNext)
  (dSeq (dIf (dOr (dTst (dOp rNeA (dCB (rStrR sp_ratstr) (dCons (dMk (dCons (dOp rIxD (dVar 5) (dC (.int 0))) (dCons (dOp rIxD (dVar 5) (dC (.int 1))) dNil))) dNil)) (dVar 6))) (dNot (dTru (dCall sp_law_fits_2a01 (dCons (dVar 6) dNil)))))
  (dRet (dC (.bl false)))
  dNext)
  w_law_6017_t3)))
def w_law_6017_t5 : DSt :=
  (dSeq (dSet 5 (dCall sp_law_pair_e2e7 (dCons (dOp rIxD (dVar 3) (dC (.int 0))) (dCons (dCB rMax2 (dCons (dC (.int 1)) (dCons (dOp rIxD (dVar 3) (dC (.int 1))) dNil))) dNil))))
  (dSeq (dIf (dTst (dOp rEqA (dCall sp_law_take_65a1 (dCons (dVar 1) (dCons (dC (.int 3)) dNil))) (dC (.int 0))))
  (dSet 5 (dCB rTup (dCons (dOp rIxD (dVar 5) (dC (.int 0))) (dCons (dC (.int 1)) dNil))))
  dNext)
  (dSeq (dIf (dTst (dOp rEqA (dCall sp_law_take_65a1 (dCons (dVar 1) (dCons (dC (.int 2)) dNil))) (dC (.int 0))))
  (dSet 5 (dCB rTup (dCons (dOp rSub (dC (.int 0)) (dOp rIxD (dVar 5) (dC (.int 0)))) (dCons (dOp rIxD (dVar 5) (dC (.int 1))) dNil))))
  dNext)
  w_law_6017_t4)))
def w_law_6017 : DSt :=
  (dSeq (dSet 1 (dCB rLstR (dCons (dCall sp_law_tape (dCons (dVar 0) dNil)) (dCons (dC (.int 0)) dNil))))
  (dSeq (dSet 2 (dOp rAdd (dC (.int 1)) (dCall sp_law_take_65a1 (dCons (dVar 1) (dCons (dC (.int 3)) dNil)))))
  (dSeq (dSet 3 (dCB rLstV (dCons (dC (.int 0)) (dCons (dC (.int 0)) dNil))))
  (dSeq (dFor (dRng1 (dCons (dVar 2) dNil)) (gNm 4)
  (dSet 3 (dLc (dIt (dVar 3)) (gNm 9) dYes (dOp rAdd (dOp rMul (dVar 9) (dC (.int 1000))) (dCall sp_law_take_65a1 (dCons (dVar 1) (dCons (dC (.int 1000)) dNil)))) [9])))
  w_law_6017_t5))))
theorem rd_law_6017 (ds M Q E) (h : sp_law_6017 ds M Q E) : w_law_6017 { nx := fun _ M' => Q .non M', rt := Q } (startD 10 ds) M := by
  obtain ⟨ns, rfl, hl, hq⟩ := h
  -- behind the long number
  have t1 : ∀ (M1 : Mem) (q : Rat) (a1 a2 a3 a4 a5 a6 a7 : Option D), Bt 300 q → w_law_6017_t1 { nx := fun _ M' => Q .non M', rt := Q } [some (.scr (dInts ns)), a1, a2, a3, a4, a5, a6, a7, some (pairD q), none] M1 := by
    intro M1 q a1 a2 a3 a4 a5 a6 a7 bq
    obtain ⟨u, l⟩ := ratS_ok bq
    refine txt_at (i := 8) (by show 6 < 10; decide) rfl (by decide) bq ?_
    refine ⟨_, rfl, (0 : Int), rfl, _, atI_nn (by decide) rfl, _, rfl, (1 : Int), rfl, _, atI_nn (by decide) rfl, dne q, trivial, .inr ⟨_, rfl, _, rfl, by rw [Rat.num_divInt_den]; exact bq, ⟨_, rfl⟩, _, rfl, .inl ⟨?_, u.ok 8, fun t ht => ?_⟩⟩⟩
    · rw [Rat.num_divInt_den]; exact u.ok 8
    · rw [ht.mpr (by rw [Rat.num_divInt_den])]
      exact ⟨true, rfl, ite_t ⟨_, rfl, ratS q, rfl, u, by omega, hq _⟩⟩
  have t2 : ∀ (st : Addr) (b : Nat) (M1 : Mem) (q : Rat) (a2 a3 a4 a6 : Option D), Lw st b M1 → b ≤ 1000 → Bt 30 q → w_law_6017_t2 { nx := fun _ M' => Q .non M', rt := Q } [some (.scr (dInts ns)), some (.ref st), a2, a3, a4, some (pairD q), a6, none, none, none] M1 := by
    intro st b M1 q a2 a3 a4 a6 hL hb bq
    have bn : -(2 ^ 64) < q.num ∧ q.num < 2 ^ 64 := by have := bq.1; omega
    have bd := bq.2
    have dp := q.den_pos
    refine ⟨_, rfl, (0 : Int), rfl, _, atI_nn (by decide) rfl, pw10 (by decide) (by decide), mulL bn.1 bn.2, pw10 (by decide) (by decide), ?_⟩
    refine take_at rfl hL (by decide) (by omega) fun x M2 x0 x1 hL2 hO2 => ?_
    refine ⟨_, rfl, _, rfl, (1 : Int), rfl, _, atI_nn (by decide) rfl, pw10 (by decide) (by decide), pw10 (by decide) (by decide), sz16 (show 3 ≤ 1000000 by decide), take_at rfl hL2 (by decide) (by omega) fun y M3 y0 y1 hL3 hO3 => ?_⟩
    have top : (q.num * 10 ^ (25 : Int).toNat + 10 ^ (24 : Int).toNat + x).natAbs ≤ 2 ^ 300 := by
      have := bq.1
      have e1 : (10 : Int) ^ (25 : Int).toNat = 10000000000000000000000000 := by decide
      have e2 : (10 : Int) ^ (24 : Int).toNat = 1000000000000000000000000 := by decide
      rw [e1, e2]
      have : (q.num * 10000000000000000000000000 + 1000000000000000000000000 + x).natAbs ≤ 2 ^ 120 := by omega
      exact Nat.le_trans this (Nat.pow_le_pow_right (by decide) (by decide))
    have fin : ∀ d : Int, 1 ≤ d → d ≤ 2 ^ 60 → IntMulOk (q.den : Int) d ∧ 0 < 1 + (q.den : Int) * d ∧ (1 + (q.den : Int) * d).natAbs < 2 ^ 8192 ∧ Bt 300 (Rat.divInt (q.num * 10 ^ (25 : Int).toNat + 10 ^ (24 : Int).toNat + x) (1 + (q.den : Int) * d)) := by
      intro d d1 d2
      have h1 : (0 : Int) < (q.den : Int) * d := Int.mul_pos (by omega) (by omega)
      have h2 : ((q.den : Int) * d).natAbs ≤ 2 ^ 90 := by
        rw [Int.natAbs_mul, Int.natAbs_natCast]
        exact Nat.le_trans (Nat.mul_le_mul bd (show d.natAbs ≤ 2 ^ 60 by omega)) (by rw [← Nat.pow_add]; exact Nat.le_refl _)
      have h3 : (1 + (q.den : Int) * d).natAbs ≤ 2 ^ 91 := by omega
      exact ⟨mulL (by omega) (by omega), by omega, Nat.lt_of_le_of_lt h3 (Nat.pow_lt_pow_right (by decide) (by decide)), bt_div top (Nat.le_trans h3 (Nat.pow_le_pow_right (by decide) (by decide)))⟩
    obtain rfl | rfl | rfl : y = 0 ∨ y = 1 ∨ y = 2 := by omega
    · obtain ⟨f1, f2, f3, f4⟩ := fin 1 (by decide) (by decide)
      exact ⟨(0 : Int), rfl, _, rfl, f1, _, _, rfl, f2, f3, t1 M3 _ _ _ _ _ _ _ _ f4⟩
    · obtain ⟨f1, f2, f3, f4⟩ := fin (10 ^ (9 : Int).toNat) (by decide) (by decide)
      exact ⟨(1 : Int), rfl, _, rfl, f1, _, _, rfl, f2, f3, t1 M3 _ _ _ _ _ _ _ _ f4⟩
    · obtain ⟨f1, f2, f3, f4⟩ := fin (10 ^ (18 : Int).toNat) (by decide) (by decide)
      exact ⟨(2 : Int), rfl, _, rfl, f1, _, _, rfl, f2, f3, t1 M3 _ _ _ _ _ _ _ _ f4⟩
  have t3 : ∀ (st : Addr) (b : Nat) (M1 : Mem) (q : Rat) (a2 a3 a4 : Option D), Lw st b M1 → b ≤ 500 → Bt 30 q → w_law_6017_t3 { nx := fun _ M' => Q .non M', rt := Q } [some (.scr (dInts ns)), some (.ref st), a2, a3, a4, some (pairD q), some (.str (ratS q)), none, none, none] M1 := by
    intro st b M1 q a2 a3 a4 hL hb bq
    have b3 : Bt 300 q := bq.mono (by decide)
    obtain ⟨u, l⟩ := ratS_ok b3
    refine ⟨4, rfl, by decide, dLoop_ind (fun rest δ M2 => ∃ (b2 : Nat) (a4 : Option D), δ = [some (.scr (dInts ns)), some (.ref st), a2, a3, a4, some (pairD q), some (.str (ratS q)), none, none, none] ∧ Lw st b2 M2 ∧ b2 + 10 * rest.length ≤ 600) ?_ ?_ _ _ _ ⟨b, a4, rfl, hL, by rw [rngD_len]; show b + 10 * 4 ≤ 600; omega⟩⟩
    · rintro x xs δ M2 K hK ⟨b2, a4, rfl, hL2, hb2⟩
      rw [List.length_cons] at hb2
      refine ⟨trivial, _, rfl, _, rfl, _, rfl, st, b2, ratS q, q, rfl, hL2, by omega, u, by omega, bq.mono (by decide), fun z' M3 u' l' hL3 => ⟨z', rfl, u', by omega, true, rfl, ?_⟩⟩
      exact hK _ _ ⟨b2 + 10, _, rfl, hL3, by omega⟩
    · rintro δ M2 ⟨b2, a4, rfl, hL2, hb2⟩
      exact ⟨trivial, t2 st b2 M2 q a2 a3 a4 _ hL2 (by omega) bq⟩
  have t4 : ∀ (st : Addr) (b : Nat) (M1 : Mem) (q : Rat) (a2 a3 a4 : Option D), Lw st b M1 → b ≤ 500 → Bt 30 q → w_law_6017_t4 { nx := fun _ M' => Q .non M', rt := Q } [some (.scr (dInts ns)), some (.ref st), a2, a3, a4, some (pairD q), none, none, none, none] M1 := by
    intro st b M1 q a2 a3 a4 hL hb bq
    have b3 : Bt 300 q := bq.mono (by decide)
    obtain ⟨u, l⟩ := ratS_ok b3
    refine txt_at (i := 5) (by show 6 < 10; decide) rfl (by decide) b3 ?_
    refine ⟨_, rfl, (0 : Int), rfl, _, atI_nn (by decide) rfl, _, rfl, (1 : Int), rfl, _, atI_nn (by decide) rfl, dne q, trivial, .inr ⟨_, rfl, _, rfl, by rw [Rat.num_divInt_den]; exact b3, ⟨_, rfl⟩, _, rfl, .inl ⟨?_, u.ok 8, fun t ht => ⟨t, rfl, ?_⟩⟩⟩⟩
    · rw [Rat.num_divInt_den]; exact u.ok 8
    · rw [Rat.num_divInt_den] at ht
      have : t = false := by
        cases e : t with
        | false => rfl
        | true => exact absurd rfl (ht.mp e)
      rw [this]
      exact ite_f ⟨_, rfl, ratS q, rfl, u, by omega, true, rfl, t3 st b M1 q a2 a3 a4 hL hb bq⟩
  have t5 : ∀ (st : Addr) (b : Nat) (M1 : Mem) (x y : Int) (a2 a4 : Option D), Lw st b M1 → b ≤ 400 → 0 ≤ x → x < 1000000000 → 0 ≤ y → y < 1000000000 → w_law_6017_t5 { nx := fun _ M' => Q .non M', rt := Q } [some (.scr (dInts ns)), some (.ref st), a2, some (.lst [.int x, .int y]), a4, none, none, none, none, none] M1 := by
    intro st b M1 x y a2 a4 hL hb x0 x1 y0 y1
    have m1 : 1 ≤ (if y > 1 then y else 1) ∧ (if y > 1 then y else 1) < 1000000000 := by split <;> omega
    refine ⟨_, rfl, (0 : Int), rfl, _, atI_nn (by decide) rfl, _, rfl, (1 : Int), rfl, _, atI_nn (by decide) rfl, (1 : Int), y, rfl, x, _, rfl, by omega, Nat.lt_of_le_of_lt (show (if y > 1 then y else 1).natAbs ≤ 2 ^ 30 by omega) (Nat.pow_lt_pow_right (by decide) (by decide)), ?_⟩
    have b0 : Bt 30 (Rat.divInt x (if y > 1 then y else 1)) := bt_div (by omega) (by omega)
    generalize Rat.divInt x (if y > 1 then y else 1) = q0 at b0
    -- behind the first change
    have g2 : ∀ (b : Nat) (M2 : Mem) (q : Rat), Lw st b M2 → b ≤ 450 → Bt 30 q → (dSeq (dIf (dTst (dOp rEqA (dCall sp_law_take_65a1 (dCons (dVar 1) (dCons (dC (.int 2)) dNil))) (dC (.int 0))))
  (dSet 5 (dCB rTup (dCons (dOp rSub (dC (.int 0)) (dOp rIxD (dVar 5) (dC (.int 0)))) (dCons (dOp rIxD (dVar 5) (dC (.int 1))) dNil))))
  dNext) w_law_6017_t4) { nx := fun _ M' => Q .non M', rt := Q } [some (.scr (dInts ns)), some (.ref st), a2, some (.lst [.int x, .int y]), a4, some (pairD q), none, none, none, none] M2 := by
      intro b M2 q hL hb bq
      refine take_at rfl hL (by decide) (by omega) fun z M3 z0 z1 hL3 hO3 => .inl ⟨rfl, rfl, fun t ht => ⟨t, rfl, ite_b (fun c => ?_) (fun c => ?_)⟩⟩
      · refine ⟨_, rfl, (0 : Int), rfl, _, atI_nn (by decide) rfl, trivial, _, rfl, (1 : Int), rfl, _, atI_nn (by decide) rfl, sz16 (show 2 ≤ 1000000 by decide), ?_⟩
        have e : D.tup [.int (0 - q.num), .int (q.den : Int)] = pairD (-q) := by
          show _ = D.tup [.int (-q).num, .int ((-q).den : Int)]
          rw [Rat.neg_num, Rat.neg_den, Int.zero_sub]
        have := t4 st _ M3 (-q) a2 (some (.lst [.int x, .int y])) a4 hL3 (by omega) (bt_neg bq)
        rw [← e] at this
        exact this
      · exact t4 st _ M3 q a2 (some (.lst [.int x, .int y])) a4 hL3 (by omega) bq
    refine take_at rfl hL (by decide) (by omega) fun z M3 z0 z1 hL3 hO3 => .inl ⟨rfl, rfl, fun t ht => ⟨t, rfl, ite_b (fun c => ?_) (fun c => ?_)⟩⟩
    · refine ⟨_, rfl, (0 : Int), rfl, _, atI_nn (by decide) rfl, sz16 (show 2 ≤ 1000000 by decide), ?_⟩
      have e : D.tup [.int q0.num, .int 1] = pairD ((q0.num : Int) : Rat) := by
        show _ = D.tup [.int ((q0.num : Int) : Rat).num, .int (((q0.num : Int) : Rat).den : Int)]
        rw [num_int, den_int]; rfl
      have := g2 _ M3 ((q0.num : Int) : Rat) hL3 (by omega) (bt_int b0.1)
      rw [← e] at this
      exact this
    · exact g2 _ M3 q0 hL3 (by omega) b0
  refine ⟨_, rfl, ns, rfl, hl, fun ts hts => ⟨by show 2 ≤ sizeLine; decide, fun st hst => ?_⟩⟩
  have hL0 : Lw st 0 (mput M st (.lst [.lst (dInts ts), .int 0])) := ⟨ts, 0, hts, by omega, by omega, mput_same⟩
  generalize mput M st (.lst [.lst (dInts ts), .int 0]) = M0 at hL0
  refine take_at rfl hL0 (by decide) (by omega) fun g M1 g0 g3 hL1 hO1 => ?_
  refine ⟨sz16 (show 2 ≤ 1000000 by decide), ?_⟩
  refine ⟨_, rfl, 1 + g, rfl, by omega, dLoop_ind (fun rest δ M2 => ∃ (k b : Nat) (x y : Int) (a4 : Option D), δ = [some (.scr (dInts ns)), some (.ref st), some (.int (1 + g)), some (.lst [.int x, .int y]), a4, none, none, none, none, none] ∧ Lw st b M2 ∧ b ≤ 1 + 2 * k ∧ k + rest.length ≤ 3 ∧ (0 ≤ x ∧ x < 1000 ^ k) ∧ (0 ≤ y ∧ y < 1000 ^ k)) ?_ ?_ _ _ _ ⟨0, 1, 0, 0, none, rfl, hL1, by omega, by rw [rngD_len]; omega, by decide, by decide⟩⟩
  · rintro d xs δ M2 K hK ⟨k, b, x, y, a4, rfl, hL2, hb, hk, hx, hy⟩
    rw [List.length_cons] at hk
    have pk : (1000 : Int) ^ k ≤ 1000000 := by
      obtain rfl | rfl | rfl : k = 0 ∨ k = 1 ∨ k = 2 := by omega
      all_goals decide
    have ek : (1000 : Int) ^ (k + 1) = 1000 ^ k * 1000 := Int.pow_succ ..
    refine ⟨trivial, _, rfl, trivial, sz16 (show 1 ≤ 1000000 by decide), gyes3 ⟨_, rfl, mulR (by decide) (by decide), take_at rfl hL2 (by decide) (by omega) fun p M3 p0 p1 hL3 hO3 => ?_⟩⟩
    refine ⟨trivial, sz16 (show 2 ≤ 1000000 by decide), gyes3 ⟨_, rfl, mulR (by decide) (by decide), take_at rfl hL3 (by decide) (by omega) fun r M4 r0 r1 hL4 hO4 => ⟨trivial, ?_⟩⟩⟩
    exact hK _ _ ⟨k + 1, b + 2, x * 1000 + p, y * 1000 + r, _, rfl, hL4, by omega, by omega, by rw [ek]; omega, by rw [ek]; omega⟩
  · rintro δ M2 ⟨k, b, x, y, a4, rfl, hL2, hb, hk, hx, hy⟩
    rw [List.length_nil] at hk
    have pk : (1000 : Int) ^ k ≤ 1000000000 := by
      obtain rfl | rfl | rfl | rfl : k = 0 ∨ k = 1 ∨ k = 2 ∨ k = 3 := by omega
      all_goals decide
    exact ⟨trivial, t5 st b M2 x y _ a4 hL2 (by omega) hx.1 (by omega) hy.1 (by omega)⟩
/-! ### the row -/
def top (i : Nat) : Stmt := PySem.Challenge.pw_plumbnet_k04_written_forms_of_fractions.main.body.getD i (.Pass ⟨0, 0, 0, 0⟩)
structure Txt (K : PySem.W.Frag) (mg : Str → Option Value) (CR : Addr) : Prop where
  g_gcd : mg "gcd" = some (.builtin "math.gcd")
  f_isinstance : mg "isinstance" = none
  f_abs : mg "abs" = none
  f_str : mg "str" = none
  f_int : mg "int" = none
  k_DIGITS : ∃ t, mg "DIGITS" = some (.str c_DIGITS t)
  f_len : mg "len" = none
  k_MOST_DIGITS : ∃ t, mg "MOST_DIGITS" = some (.int 9 t)
  f_bool : mg "bool" = none
  f_range : mg "range" = none
  f_max : mg "max" = none
section
variable {P : Program} {w : World} {K : PySem.W.Frag} {mg : Str → Option Value} {base : Heap} {CR Z S B f : Addr} {fd : FuncData}
abbrev s_Ratio___init__ : Stmt := inCls (top 10) 0
theorem sc_Ratio___init__ : FnScope ["self", "top", "bottom", "common"] ["self", "top", "bottom"] (defScope s_Ratio___init__) := ⟨rfl, rfl, rfl, by decide +kernel, rfl, by decide +kernel, by decide +kernel⟩
theorem ok_Ratio___init__ (F : FunD K "__init__" "Ratio.__init__" (defArgs s_Ratio___init__) (defBody s_Ratio___init__) (defScope s_Ratio___init__) [V.int 1] [] f fd) (b : Txt K mg CR) (c : Cls K CR) (nt : NoAttr K CR "top") (nb : NoAttr K CR "bottom") (sk : seerCk K = true) (pt : P.given.tree = none) : FnOk P w K mg base (L2.CX P w) 36 f fd ["self", "top", "bottom"] (lSp K CR (sp_init CR)) :=
  okD F sc_Ratio___init__ (fun cdv A outer s H E hr => (s_cons (s_if (t_cmp (o_eqP hr.units) (dv 2) di)
    (s_one s_never)
    s_nil)
    (s_cons (s_set (i := 3) sc_Ratio___init__.nd (d_gcd b.g_gcd (da_cons (dv 1) (da_cons (dv 2) da_nil))))
    (s_cons (s_if (t_cmp o_lt (dv 2) di)
    (s_one (s_set (i := 3) sc_Ratio___init__.nd (d_un o_negI (dv 3))))
    s_nil)
    (s_cons (s_fld (okC := (· = CR)) (fun C h => by subst h; exact ⟨c, nt⟩) (dv 0) (d_op (o_fdivB (pyR_of sk pt hr rfl sc_Ratio___init__.gen sc_Ratio___init__.co)) (dv 1) (dv 3)))
    (s_one (s_fld (okC := (· = CR)) (fun C h => by subst h; exact ⟨c, nb⟩) (dv 0) (d_op (o_fdivB (pyR_of sk pt hr rfl sc_Ratio___init__.gen sc_Ratio___init__.co)) (dv 2) (dv 3))))))))) (fun ds M Q E h => by repeat (first | (obtain ⟨e, _⟩ := h; exact congrArg List.length e) | (obtain ⟨_, h⟩ := h))) (rd_Ratio___init__ CR)
abbrev s_Ratio___add__ : Stmt := inCls (top 10) 1
theorem sc_Ratio___add__ : FnScope ["self", "other"] ["self", "other"] (defScope s_Ratio___add__) := ⟨rfl, rfl, rfl, by decide +kernel, rfl, by decide +kernel, by decide +kernel⟩
theorem ok_Ratio___add__ (F : FunD K "__add__" "Ratio.__add__" (defArgs s_Ratio___add__) (defBody s_Ratio___add__) (defScope s_Ratio___add__) [] [] f fd) (b : Txt K mg CR) (T : RatT0 P w K mg base CR) : FnOk P w K mg base (L2.CX P w) 38 f fd ["self", "other"] (lSp K CR sp_add) :=
  okD F sc_Ratio___add__ (fun cdv A outer s H E hr => (s_one (s_ret (T.ini.d_mk T.g (hr.mono (by decide)) (da_cons (d_op o_addP (d_op o_mulI (d_top T.cls T.nt (dv 0)) (d_bot T.cls T.nb (dv 1))) (d_op o_mulI (d_top T.cls T.nt (dv 1)) (d_bot T.cls T.nb (dv 0)))) (da_cons (d_op o_mulI (d_bot T.cls T.nb (dv 0)) (d_bot T.cls T.nb (dv 1))) da_nil)))))) (fun ds M Q E h => by repeat (first | (obtain ⟨e, _⟩ := h; exact congrArg List.length e) | (obtain ⟨_, h⟩ := h))) rd_Ratio___add__
abbrev s_Ratio___sub__ : Stmt := inCls (top 10) 2
theorem sc_Ratio___sub__ : FnScope ["self", "other"] ["self", "other"] (defScope s_Ratio___sub__) := ⟨rfl, rfl, rfl, by decide +kernel, rfl, by decide +kernel, by decide +kernel⟩
theorem ok_Ratio___sub__ (F : FunD K "__sub__" "Ratio.__sub__" (defArgs s_Ratio___sub__) (defBody s_Ratio___sub__) (defScope s_Ratio___sub__) [] [] f fd) (b : Txt K mg CR) (T : RatT0 P w K mg base CR) : FnOk P w K mg base (L2.CX P w) 38 f fd ["self", "other"] (lSp K CR sp_sub) :=
  okD F sc_Ratio___sub__ (fun cdv A outer s H E hr => (s_one (s_ret (T.ini.d_mk T.g (hr.mono (by decide)) (da_cons (d_op o_subI (d_op o_mulI (d_top T.cls T.nt (dv 0)) (d_bot T.cls T.nb (dv 1))) (d_op o_mulI (d_top T.cls T.nt (dv 1)) (d_bot T.cls T.nb (dv 0)))) (da_cons (d_op o_mulI (d_bot T.cls T.nb (dv 0)) (d_bot T.cls T.nb (dv 1))) da_nil)))))) (fun ds M Q E h => by repeat (first | (obtain ⟨e, _⟩ := h; exact congrArg List.length e) | (obtain ⟨_, h⟩ := h))) rd_Ratio___sub__
abbrev s_Ratio___mul__ : Stmt := inCls (top 10) 3
theorem sc_Ratio___mul__ : FnScope ["self", "other"] ["self", "other"] (defScope s_Ratio___mul__) := ⟨rfl, rfl, rfl, by decide +kernel, rfl, by decide +kernel, by decide +kernel⟩
theorem ok_Ratio___mul__ (F : FunD K "__mul__" "Ratio.__mul__" (defArgs s_Ratio___mul__) (defBody s_Ratio___mul__) (defScope s_Ratio___mul__) [] [] f fd) (b : Txt K mg CR) (T : RatT0 P w K mg base CR) : FnOk P w K mg base (L2.CX P w) 38 f fd ["self", "other"] (lSp K CR sp_mul) :=
  okD F sc_Ratio___mul__ (fun cdv A outer s H E hr => (s_one (s_ret (T.ini.d_mk T.g (hr.mono (by decide)) (da_cons (d_op o_mulI (d_top T.cls T.nt (dv 0)) (d_top T.cls T.nt (dv 1))) (da_cons (d_op o_mulI (d_bot T.cls T.nb (dv 0)) (d_bot T.cls T.nb (dv 1))) da_nil)))))) (fun ds M Q E h => by repeat (first | (obtain ⟨e, _⟩ := h; exact congrArg List.length e) | (obtain ⟨_, h⟩ := h))) rd_Ratio___mul__
abbrev s_Ratio___neg__ : Stmt := inCls (top 10) 4
theorem sc_Ratio___neg__ : FnScope ["self"] ["self"] (defScope s_Ratio___neg__) := ⟨rfl, rfl, rfl, by decide +kernel, rfl, by decide +kernel, by decide +kernel⟩
theorem ok_Ratio___neg__ (F : FunD K "__neg__" "Ratio.__neg__" (defArgs s_Ratio___neg__) (defBody s_Ratio___neg__) (defScope s_Ratio___neg__) [] [] f fd) (b : Txt K mg CR) (T : RatT0 P w K mg base CR) : FnOk P w K mg base (L2.CX P w) 38 f fd ["self"] (lSp K CR sp_neg) :=
  okD F sc_Ratio___neg__ (fun cdv A outer s H E hr => (s_one (s_ret (T.ini.d_mk T.g (hr.mono (by decide)) (da_cons (d_un o_negI (d_top T.cls T.nt (dv 0))) (da_cons (d_bot T.cls T.nb (dv 0)) da_nil)))))) (fun ds M Q E h => by repeat (first | (obtain ⟨e, _⟩ := h; exact congrArg List.length e) | (obtain ⟨_, h⟩ := h))) rd_Ratio___neg__
abbrev s_Ratio___eq__ : Stmt := inCls (top 10) 6
theorem sc_Ratio___eq__ : FnScope ["self", "other"] ["self", "other"] (defScope s_Ratio___eq__) := ⟨rfl, rfl, rfl, by decide +kernel, rfl, by decide +kernel, by decide +kernel⟩
theorem ok_Ratio___eq__ (F : FunD K "__eq__" "Ratio.__eq__" (defArgs s_Ratio___eq__) (defBody s_Ratio___eq__) (defScope s_Ratio___eq__) [] [] f fd) (b : Txt K mg CR) (T : RatT0 P w K mg base CR) : FnOk P w K mg base (L2.CX P w) 38 f fd ["self", "other"] (lSp K CR sp_eq) :=
  okD F sc_Ratio___eq__ (fun cdv A outer s H E hr => (s_one (s_ret (v_and (T.d_isR b.f_isinstance (dv 1)) (v_and (d_cmp (o_eqP hr.units) (d_top T.cls T.nt (dv 0)) (d_top T.cls T.nt (dv 1))) (v_one (d_cmp (o_eqP hr.units) (d_bot T.cls T.nb (dv 0)) (d_bot T.cls T.nb (dv 1))))))))) (fun ds M Q E h => by repeat (first | (obtain ⟨e, _⟩ := h; exact congrArg List.length e) | (obtain ⟨_, h⟩ := h))) rd_Ratio___eq__
abbrev s_Ratio___lt__ : Stmt := inCls (top 10) 7
theorem sc_Ratio___lt__ : FnScope ["self", "other"] ["self", "other"] (defScope s_Ratio___lt__) := ⟨rfl, rfl, rfl, by decide +kernel, rfl, by decide +kernel, by decide +kernel⟩
theorem ok_Ratio___lt__ (F : FunD K "__lt__" "Ratio.__lt__" (defArgs s_Ratio___lt__) (defBody s_Ratio___lt__) (defScope s_Ratio___lt__) [] [] f fd) (b : Txt K mg CR) (T : RatT0 P w K mg base CR) : FnOk P w K mg base (L2.CX P w) 38 f fd ["self", "other"] (lSp K CR sp_lt) :=
  okD F sc_Ratio___lt__ (fun cdv A outer s H E hr => (s_one (s_ret (d_cmp o_lt (d_op o_mulI (d_top T.cls T.nt (dv 0)) (d_bot T.cls T.nb (dv 1))) (d_op o_mulI (d_top T.cls T.nt (dv 1)) (d_bot T.cls T.nb (dv 0))))))) (fun ds M Q E h => by repeat (first | (obtain ⟨e, _⟩ := h; exact congrArg List.length e) | (obtain ⟨_, h⟩ := h))) rd_Ratio___lt__
abbrev s_Ratio___le__ : Stmt := inCls (top 10) 8
theorem sc_Ratio___le__ : FnScope ["self", "other"] ["self", "other"] (defScope s_Ratio___le__) := ⟨rfl, rfl, rfl, by decide +kernel, rfl, by decide +kernel, by decide +kernel⟩
theorem ok_Ratio___le__ (F : FunD K "__le__" "Ratio.__le__" (defArgs s_Ratio___le__) (defBody s_Ratio___le__) (defScope s_Ratio___le__) [] [] f fd) (b : Txt K mg CR) (T : RatT0 P w K mg base CR) : FnOk P w K mg base (L2.CX P w) 38 f fd ["self", "other"] (lSp K CR sp_le) :=
  okD F sc_Ratio___le__ (fun cdv A outer s H E hr => (s_one (s_ret (d_cmp o_le (d_op o_mulI (d_top T.cls T.nt (dv 0)) (d_bot T.cls T.nb (dv 1))) (d_op o_mulI (d_top T.cls T.nt (dv 1)) (d_bot T.cls T.nb (dv 0))))))) (fun ds M Q E h => by repeat (first | (obtain ⟨e, _⟩ := h; exact congrArg List.length e) | (obtain ⟨_, h⟩ := h))) rd_Ratio___le__
abbrev s_Ratio___gt__ : Stmt := inCls (top 10) 9
theorem sc_Ratio___gt__ : FnScope ["self", "other"] ["self", "other"] (defScope s_Ratio___gt__) := ⟨rfl, rfl, rfl, by decide +kernel, rfl, by decide +kernel, by decide +kernel⟩
theorem ok_Ratio___gt__ (F : FunD K "__gt__" "Ratio.__gt__" (defArgs s_Ratio___gt__) (defBody s_Ratio___gt__) (defScope s_Ratio___gt__) [] [] f fd) (b : Txt K mg CR) (T : RatT0 P w K mg base CR) : FnOk P w K mg base (L2.CX P w) 38 f fd ["self", "other"] (lSp K CR sp_gt) :=
  okD F sc_Ratio___gt__ (fun cdv A outer s H E hr => (s_one (s_ret (d_cmp o_gt (d_op o_mulI (d_top T.cls T.nt (dv 0)) (d_bot T.cls T.nb (dv 1))) (d_op o_mulI (d_top T.cls T.nt (dv 1)) (d_bot T.cls T.nb (dv 0))))))) (fun ds M Q E h => by repeat (first | (obtain ⟨e, _⟩ := h; exact congrArg List.length e) | (obtain ⟨_, h⟩ := h))) rd_Ratio___gt__
abbrev s_Ratio___ge__ : Stmt := inCls (top 10) 10
theorem sc_Ratio___ge__ : FnScope ["self", "other"] ["self", "other"] (defScope s_Ratio___ge__) := ⟨rfl, rfl, rfl, by decide +kernel, rfl, by decide +kernel, by decide +kernel⟩
theorem ok_Ratio___ge__ (F : FunD K "__ge__" "Ratio.__ge__" (defArgs s_Ratio___ge__) (defBody s_Ratio___ge__) (defScope s_Ratio___ge__) [] [] f fd) (b : Txt K mg CR) (T : RatT0 P w K mg base CR) : FnOk P w K mg base (L2.CX P w) 38 f fd ["self", "other"] (lSp K CR sp_ge) :=
  okD F sc_Ratio___ge__ (fun cdv A outer s H E hr => (s_one (s_ret (d_cmp o_ge (d_op o_mulI (d_top T.cls T.nt (dv 0)) (d_bot T.cls T.nb (dv 1))) (d_op o_mulI (d_top T.cls T.nt (dv 1)) (d_bot T.cls T.nb (dv 0))))))) (fun ds M Q E h => by repeat (first | (obtain ⟨e, _⟩ := h; exact congrArg List.length e) | (obtain ⟨_, h⟩ := h))) rd_Ratio___ge__
abbrev s_Ratio___abs__ : Stmt := inCls (top 10) 5
theorem sc_Ratio___abs__ : FnScope ["self"] ["self"] (defScope s_Ratio___abs__) := ⟨rfl, rfl, rfl, by decide +kernel, rfl, by decide +kernel, by decide +kernel⟩
theorem ok_Ratio___abs__ (F : FunD K "__abs__" "Ratio.__abs__" (defArgs s_Ratio___abs__) (defBody s_Ratio___abs__) (defScope s_Ratio___abs__) [] [] f fd) (b : Txt K mg CR) (T : RatT0 P w K mg base CR) : FnOk P w K mg base (L2.CX P w) 38 f fd ["self"] (lSp K CR sp_abs) :=
  okD F sc_Ratio___abs__ (fun cdv A outer s H E hr => (s_one (s_ret (T.ini.d_mk T.g (hr.mono (by decide)) (da_cons (d_B c_absI b.f_abs (da_cons (d_top T.cls T.nt (dv 0)) da_nil)) (da_cons (d_bot T.cls T.nb (dv 0)) da_nil)))))) (fun ds M Q E h => by repeat (first | (obtain ⟨e, _⟩ := h; exact congrArg List.length e) | (obtain ⟨_, h⟩ := h))) rd_Ratio___abs__
abbrev s_Ratio___str__ : Stmt := inCls (top 10) 11
theorem sc_Ratio___str__ : FnScope ["self"] ["self"] (defScope s_Ratio___str__) := ⟨rfl, rfl, rfl, by decide +kernel, rfl, by decide +kernel, by decide +kernel⟩
theorem ok_Ratio___str__ (F : FunD K "__str__" "Ratio.__str__" (defArgs s_Ratio___str__) (defBody s_Ratio___str__) (defScope s_Ratio___str__) [] [] f fd) (b : Txt K mg CR) (T : RatT0 P w K mg base CR) : FnOk P w K mg base (L2.CX P w) 38 f fd ["self"] (lSp K CR sp_ratstr) :=
  okD F sc_Ratio___str__ (fun cdv A outer s H E hr => (s_cons (s_if (t_cmp (o_eqP hr.units) (d_bot T.cls T.nb (dv 0)) di)
    (s_one (s_ret (d_Ty c_str b.f_str (da_cons (d_top T.cls T.nt (dv 0)) da_nil))))
    s_nil)
    (s_one (s_ret (d_join (.cons (d_fmt (d_top T.cls T.nt (dv 0))) (.cons ds (.cons (d_fmt (d_bot T.cls T.nb (dv 0))) .nil)))))))) (fun ds M Q E h => by repeat (first | (obtain ⟨e, _⟩ := h; exact congrArg List.length e) | (obtain ⟨_, h⟩ := h))) rd_Ratio___str__
abbrev s_BadNumber___init__ : Stmt := inCls (top 4) 0
theorem sc_BadNumber___init__ : FnScope ["self", "text"] ["self", "text"] (defScope s_BadNumber___init__) := ⟨rfl, rfl, rfl, by decide +kernel, rfl, by decide +kernel, by decide +kernel⟩
theorem ok_BadNumber___init__ {C : Addr} (F : FunD K "__init__" "BadNumber.__init__" (defArgs s_BadNumber___init__) (defBody s_BadNumber___init__) (defScope s_BadNumber___init__) [] [] f fd) (oc : OexC K C) (no : PySem.W.findIn K (.ref C) "text" = some none) : FnOk P w K mg base (L2.CX P w) 2 f fd ["self", "text"] (spOe C "text") :=
  okOe F sc_BadNumber___init__ oc no fun cdv A outer s H E => pss_one (ps_ost (pv 0) (pv 1))
abbrev s_read_digits : Stmt := top 9
theorem sc_read_digits : FnScope ["word", "char"] ["word"] (defScope s_read_digits) := ⟨rfl, rfl, rfl, by decide +kernel, rfl, by decide +kernel, by decide +kernel⟩
theorem ok_read_digits (F : FunD K "read_digits" "read_digits" (defArgs s_read_digits) (defBody s_read_digits) (defScope s_read_digits) [] [] f fd) (b : Txt K mg CR) (T : RatT P w K mg base CR) : FnOk P w K mg base (L2.CX P w) 41 f fd ["word"] (lSp K CR sp_read_digits) :=
  okD F sc_read_digits (fun cdv A outer s H E hr => (s_cons (s_if (t_bool (w_or (t_not (t_chain (T.o_le hr) (T.o_le hr) di (d_B c_len b.f_len (da_cons (dv 0) da_nil)) (d_kint b.k_MOST_DIGITS))) (w_or1 (t_bool (w_and (t_cmp (T.o_eq hr) (d_ix (dv 0) di) ds) (w_and1 (t_cmp (T.o_ne hr) (dv 0) ds)))))))
    (s_one (s_ret dn))
    s_nil)
    (s_cons (s_for PassesOwn.never rfl (i_it (dv 0)) (g_nm (i := 1) sc_read_digits.nd)
    (s_one (s_if (t_cmp o_notInS (dv 1) (d_kstr b.k_DIGITS))
    (s_one (s_ret dn))
    s_nil)))
    (s_one (s_ret (d_Ty c_intS b.f_int (da_cons (dv 0) da_nil))))))) (fun ds M Q E h => by repeat (first | (obtain ⟨e, _⟩ := h; exact congrArg List.length e) | (obtain ⟨_, h⟩ := h))) rd_read_digits
abbrev s_Ratio_of : Stmt := inCls (top 10) 13
theorem sc_Ratio_of : FnScope ["text", "pieces", "top", "numbers", "made", "piece"] ["text"] (defScope s_Ratio_of) := ⟨rfl, rfl, rfl, by decide +kernel, rfl, by decide +kernel, by decide +kernel⟩
theorem ok_Ratio_of (F : FunD K "of" "Ratio.of" (defArgs s_Ratio_of) (defBody s_Ratio_of) (defScope s_Ratio_of) [] [] f fd) (b : Txt K mg CR) (T : RatT P w K mg base CR) (ST : Op1 P w K mg base CR "__str__" sp_ratstr) (BT : ErrT P w K mg base "BadNumber" B "text") (F_read_digits : Def P w K mg base CR 41 "read_digits" ["word"] sp_read_digits) : FnOk P w K mg base (L2.CX P w) 42 f fd ["text"] (lSp K CR (sp_Ratio_of B)) :=
  okDX F sc_Ratio_of (fun cdv A outer s H E E1 W hr tk => (s_cons (s_set (i := 1) sc_Ratio_of.nd (d_split (dv 0) ds))
    (s_cons (s_set (i := 2) sc_Ratio_of.nd (d_ix (dv 1) di))
    (s_cons (s_if (t_tru (d_starts (dv 2) ds))
    (s_one (s_set (i := 2) sc_Ratio_of.nd (d_slS (dv 2) (po_someD di) po_noneD)))
    s_nil)
    (s_cons (s_set (i := 3) sc_Ratio_of.nd (d_op (T.o_add hr) (d_lst (da_cons (d_call F_read_digits (hr.mono (by decide)) (da_cons (dv 2) da_nil)) da_nil)) (d_lc (own := [("piece", 5)]) (g := (gName 5)) rfl sc_Ratio_of.nd (i_it (d_sl (dv 1) (po_someD di) po_noneD)) (by kernel_rfl) (cg_nm (j := 5) (by decide)) (mono_nm (j := 5)) (fun _ _ _ _ _ => (pg_name (i := 5) sc_Ratio_of.nd rfl (by first | exact Or.inl rfl | exact Or.inr rfl))) (fun _ _ _ _ _ => ts_nil) (fun _ _ _ _ _ => (d_call F_read_digits (hr.mono (by decide)) (da_cons (dv 5) da_nil))))))
    (s_cons (s_if (t_bool (w_or (t_cmp (T.o_gt hr) (d_B c_len b.f_len (da_cons (dv 3) da_nil)) di) (w_or (t_cmp (o_inP (hu65 hr)) dn (dv 3)) (w_or1 (t_bool (w_and (t_cmp (T.o_eq hr) (d_ix (dv 3) (d_un (T.o_neg hr) di)) di) (w_and1 (t_cmp (T.o_eq hr) (d_B c_len b.f_len (da_cons (dv 3) da_nil)) di))))))))
    (s_one (s_raiseF BT tk hr (dv 0)))
    s_nil)
    (s_cons (s_set (i := 4) sc_Ratio_of.nd (T.ini.d_mk T.g (hr.mono (by decide)) (da_cons (d_ix (dv 3) di) (da_cons (d_ix (d_op (T.o_add hr) (dv 3) (d_lst (da_cons di da_nil))) di) da_nil))))
    (s_cons (s_if (t_tru (d_starts (dv 0) ds))
    (s_one (s_set (i := 4) sc_Ratio_of.nd (d_un (T.o_neg hr) (dv 4))))
    s_nil)
    (s_cons (s_if (t_cmp (T.o_ne hr) (d_Ty (c_strR ST hr) b.f_str (da_cons (dv 4) da_nil)) (dv 0))
    (s_one (s_raiseF BT tk hr (dv 0)))
    s_nil)
    (s_one (s_ret (dv 4)))))))))))) (fun ds M Q E h => by repeat (first | (obtain ⟨e, _⟩ := h; exact congrArg List.length e) | (obtain ⟨_, h⟩ := h))) (rd_Ratio_of B)
abbrev s_law_is : Stmt := top 17
theorem sc_law_is : FnScope ["_law_actual", "_law_pair_here"] ["_law_actual", "_law_pair_here"] (defScope s_law_is) := ⟨rfl, rfl, rfl, by decide +kernel, rfl, by decide +kernel, by decide +kernel⟩
theorem ok_law_is (F : FunD K "_law_is" "_law_is" (defArgs s_law_is) (defBody s_law_is) (defScope s_law_is) [] [] f fd) (b : Txt K mg CR) (T : RatT P w K mg base CR) : FnOk P w K mg base (L2.CX P w) 41 f fd ["_law_actual", "_law_pair_here"] (lSp K CR sp_law_is) :=
  okD F sc_law_is (fun cdv A outer s H E hr => (s_cons (s_if (t_bool (w_or (t_not (t_tru (T.d_isR b.f_isinstance (dv 0)))) (w_or (t_tru (d_B c_isi b.f_isinstance (da_cons (d_top T.cls T.nt (dv 0)) (da_cons (d_ty b.f_bool) da_nil)))) (w_or1 (t_tru (d_B c_isi b.f_isinstance (da_cons (d_bot T.cls T.nb (dv 0)) (da_cons (d_ty b.f_bool) da_nil))))))))
    (s_one (s_ret db))
    s_nil)
    (s_one (s_ret (v_and (d_B c_isi b.f_isinstance (da_cons (d_top T.cls T.nt (dv 0)) (da_cons (d_ty b.f_int) da_nil))) (v_one (d_cmp (T.o_eq hr) (d_tup (da_cons (d_top T.cls T.nt (dv 0)) (da_cons (d_bot T.cls T.nb (dv 0)) da_nil))) (dv 1)))))))) (fun ds M Q E h => by repeat (first | (obtain ⟨e, _⟩ := h; exact congrArg List.length e) | (obtain ⟨_, h⟩ := h))) rd_law_is
abbrev s_law_common : Stmt := top 15
theorem sc_law_common : FnScope ["_law_one", "_law_other", "_law_k", "_law_rest"] ["_law_one", "_law_other"] (defScope s_law_common) := ⟨rfl, rfl, rfl, by decide +kernel, rfl, by decide +kernel, by decide +kernel⟩
theorem ok_law_common (F : FunD K "_law_common" "_law_common" (defArgs s_law_common) (defBody s_law_common) (defScope s_law_common) [] [] f fd) (b : Txt K mg CR) (T : RatT P w K mg base CR) : FnOk P w K mg base (L2.CX P w) 41 f fd ["_law_one", "_law_other"] (lSp K CR sp_law_common) :=
  okD F sc_law_common (fun cdv A outer s H E hr => (s_cons (s_for PassesOwn.never rfl (i_rng1 b.f_range (da_cons (d_op o_addP (d_op o_mulI di (d_bits (dv 1))) di) da_nil)) (g_nm (i := 2) sc_law_common.nd)
    (s_cons (s_if (t_cmp (o_eqP hr.units) (dv 1) di)
    (s_one s_break)
    s_nil)
    (s_cons (s_set (i := 3) sc_law_common.nd (d_op o_mod (d_Ty c_int b.f_int (da_cons (dv 0) da_nil)) (dv 1)))
    (s_cons (s_set (i := 0) sc_law_common.nd (dv 1))
    (s_one (s_set (i := 1) sc_law_common.nd (dv 3)))))))
    (s_one (s_ret (dv 0))))) (fun ds M Q E h => by repeat (first | (obtain ⟨e, _⟩ := h; exact congrArg List.length e) | (obtain ⟨_, h⟩ := h))) rd_law_common
abbrev s_law_digits : Stmt := top 18
theorem sc_law_digits : FnScope ["_law_text", "_law_char"] ["_law_text"] (defScope s_law_digits) := ⟨rfl, rfl, rfl, by decide +kernel, rfl, by decide +kernel, by decide +kernel⟩
theorem ok_law_digits (F : FunD K "_law_digits" "_law_digits" (defArgs s_law_digits) (defBody s_law_digits) (defScope s_law_digits) [] [] f fd) (b : Txt K mg CR) (T : RatT P w K mg base CR) : FnOk P w K mg base (L2.CX P w) 41 f fd ["_law_text"] (lSp K CR sp_law_digits) :=
  okD F sc_law_digits (fun cdv A outer s H E hr => (s_cons (s_if (t_bool (w_or (t_not (t_chain (T.o_le hr) (T.o_le hr) di (d_B c_len b.f_len (da_cons (dv 0) da_nil)) di)) (w_or1 (t_bool (w_and (t_cmp (T.o_eq hr) (d_ix (dv 0) di) ds) (w_and1 (t_cmp (T.o_gt hr) (d_B c_len b.f_len (da_cons (dv 0) da_nil)) di)))))))
    (s_one (s_ret dn))
    s_nil)
    (s_cons (s_for PassesOwn.never rfl (i_it (dv 0)) (g_nm (i := 1) sc_law_digits.nd)
    (s_one (s_if (t_cmp o_notInS (dv 1) ds)
    (s_one (s_ret dn))
    s_nil)))
    (s_one (s_ret (d_Ty c_intS b.f_int (da_cons (dv 0) da_nil))))))) (fun ds M Q E h => by repeat (first | (obtain ⟨e, _⟩ := h; exact congrArg List.length e) | (obtain ⟨_, h⟩ := h))) rd_law_digits
abbrev s_law_read : Stmt := top 19
theorem sc_law_read : FnScope ["_law_text", "_law_sign", "_law_body", "_law_pieces", "_law_top", "_law_bottom"] ["_law_text"] (defScope s_law_read) := ⟨rfl, rfl, rfl, by decide +kernel, rfl, by decide +kernel, by decide +kernel⟩
theorem ok_law_read (F : FunD K "_law_read" "_law_read" (defArgs s_law_read) (defBody s_law_read) (defScope s_law_read) [] [] f fd) (b : Txt K mg CR) (T : RatT P w K mg base CR) (F_law_common : Def P w K mg base CR 41 "_law_common" ["_law_one", "_law_other"] sp_law_common) (F_law_digits : Def P w K mg base CR 41 "_law_digits" ["_law_text"] sp_law_digits) : FnOk P w K mg base (L2.CX P w) 42 f fd ["_law_text"] (lSp K CR sp_law_read) :=
  okD F sc_law_read (fun cdv A outer s H E hr => (s_cons (s_set (i := 1) sc_law_read.nd di)
    (s_cons (s_set (i := 2) sc_law_read.nd (dv 0))
    (s_cons (s_if (t_cmp (T.o_eq hr) (d_slS (dv 0) po_noneD (po_someD di)) ds)
    (s_cons (s_set (i := 1) sc_law_read.nd (d_un (T.o_neg hr) di))
    (s_one (s_set (i := 2) sc_law_read.nd (d_slS (dv 0) (po_someD di) po_noneD))))
    s_nil)
    (s_cons (s_set (i := 3) sc_law_read.nd (d_split (dv 2) ds))
    (s_cons (s_set (i := 4) sc_law_read.nd (d_call F_law_digits (hr.mono (by decide)) (da_cons (d_ix (dv 3) di) da_nil)))
    (s_cons (s_if (t_bool (w_or (t_cmp o_isN (dv 4) dn) (w_or (t_cmp (T.o_gt hr) (d_B c_len b.f_len (da_cons (dv 3) da_nil)) di) (w_or1 (t_bool (w_and (t_cmp (T.o_lt hr) (dv 1) di) (w_and1 (t_cmp (T.o_eq hr) (dv 4) di))))))))
    (s_one (s_ret dn))
    s_nil)
    (s_cons (s_if (t_cmp (T.o_eq hr) (d_B c_len b.f_len (da_cons (dv 3) da_nil)) di)
    (s_one (s_ret (d_tup (da_cons (d_op (T.o_mul hr) (dv 1) (dv 4)) (da_cons di da_nil)))))
    s_nil)
    (s_cons (s_set (i := 5) sc_law_read.nd (d_call F_law_digits (hr.mono (by decide)) (da_cons (d_ix (dv 3) di) da_nil)))
    (s_cons (s_if (t_bool (w_or (t_cmp o_isN (dv 5) dn) (w_or (t_cmp (T.o_lt hr) (dv 5) di) (w_or1 (t_cmp (T.o_ne hr) (d_call F_law_common (hr.mono (by decide)) (da_cons (dv 4) (da_cons (dv 5) da_nil))) di)))))
    (s_one (s_ret dn))
    s_nil)
    (s_one (s_ret (d_tup (da_cons (d_op (T.o_mul hr) (dv 1) (dv 4)) (da_cons (dv 5) da_nil))))))))))))))) (fun ds M Q E h => by repeat (first | (obtain ⟨e, _⟩ := h; exact congrArg List.length e) | (obtain ⟨_, h⟩ := h))) rd_law_read
abbrev s_law_fits_2a01 : Stmt := top 21
theorem sc_law_fits_2a01 : FnScope ["_law_text", "_law_due", "e", "_law_actual"] ["_law_text"] (defScope s_law_fits_2a01) := ⟨rfl, rfl, rfl, by decide +kernel, rfl, by decide +kernel, by decide +kernel⟩
theorem ok_law_fits_2a01 (F : FunD K "_law_fits" "_law_fits" (defArgs s_law_fits_2a01) (defBody s_law_fits_2a01) (defScope s_law_fits_2a01) [] [] f fd) (b : Txt K mg CR) (T : RatT P w K mg base CR) (BT : ErrT P w K mg base "BadNumber" B "text") (SO : StatM P w K mg base CR 42 "Ratio" CR "of" ["text"] (sp_Ratio_of B)) (BI : ErrI K mg "SurveyError" B S) (F_law_is : Def P w K mg base CR 41 "_law_is" ["_law_actual", "_law_pair_here"] sp_law_is) (F_law_read : Def P w K mg base CR 42 "_law_read" ["_law_text"] sp_law_read) : FnOk P w K mg base (L2.CX P w) 43 f fd ["_law_text"] (lSp K CR sp_law_fits_2a01) :=
  okD F sc_law_fits_2a01 (fun cdv A outer s H E hr => (s_cons (s_set (i := 1) sc_law_fits_2a01.nd (d_call F_law_read (hr.mono (by decide)) (da_cons (dv 0) da_nil)))
    (s_cons (s_tryF (i := 2) BT ⟨rfl, by decide, .inl BT.g⟩ takes0 sc_law_fits_2a01.nd (fun E1 W1 pn xe tk po =>
    (s_one (s_set (i := 3) sc_law_fits_2a01.nd (d_static SO tk hr (da_cons (dv 0) da_nil))))) (fun a oe d y W1 pn hz hv hy hW =>
    (s_one (s_ret (v_and (d_cmp o_isN (dv 1) dn) (v_and (d_cmp (o_eqP hr.units) (d_errF BT hz hv hy hW (dv 2)) (dv 0)) (v_one (d_isF BT BI hz hv hW b.f_isinstance (dv 2)))))))))
    (s_one (s_ret (v_and (d_cmp o_notN (dv 1) dn) (v_one (d_call F_law_is (hr.mono (by decide)) (da_cons (dv 3) (da_cons (dv 1) da_nil)))))))))) (fun ds M Q E h => by repeat (first | (obtain ⟨e, _⟩ := h; exact congrArg List.length e) | (obtain ⟨_, h⟩ := h))) (rd_law_fits_2a01 B)
abbrev s_law_pair_e2e7 : Stmt := top 16
theorem sc_law_pair_e2e7 : FnScope ["_law_top", "_law_bottom", "_law_common_here"] ["_law_top", "_law_bottom"] (defScope s_law_pair_e2e7) := ⟨rfl, rfl, rfl, by decide +kernel, rfl, by decide +kernel, by decide +kernel⟩
theorem ok_law_pair_e2e7 (F : FunD K "_law_pair" "_law_pair" (defArgs s_law_pair_e2e7) (defBody s_law_pair_e2e7) (defScope s_law_pair_e2e7) [] [] f fd) (b : Txt K mg CR) (T : RatT P w K mg base CR) (F_law_common : Def P w K mg base CR 41 "_law_common" ["_law_one", "_law_other"] sp_law_common) : FnOk P w K mg base (L2.CX P w) 42 f fd ["_law_top", "_law_bottom"] (lSp K CR sp_law_pair_e2e7) :=
  okD F sc_law_pair_e2e7 (fun cdv A outer s H E hr => (s_cons (s_set (i := 2) sc_law_pair_e2e7.nd (d_call F_law_common (hr.mono (by decide)) (da_cons (d_B c_absI b.f_abs (da_cons (dv 0) da_nil)) (da_cons (dv 1) da_nil))))
    (s_one (s_ret (d_tup (da_cons (d_op o_fdiv (dv 0) (dv 2)) (da_cons (d_op o_fdiv (dv 1) (dv 2)) da_nil))))))) (fun ds M Q E h => by repeat (first | (obtain ⟨e, _⟩ := h; exact congrArg List.length e) | (obtain ⟨_, h⟩ := h))) rd_law_pair_e2e7
abbrev s_law_draw_e832 : Stmt := top 13
theorem sc_law_draw_e832 : FnScope ["_law_tape_here", "_law_at", "_law_many", "_law_number"] ["_law_tape_here", "_law_at", "_law_many"] (defScope s_law_draw_e832) := ⟨rfl, rfl, rfl, by decide +kernel, rfl, by decide +kernel, by decide +kernel⟩
theorem ok_law_draw_e832 (F : FunD K "_law_draw" "_law_draw" (defArgs s_law_draw_e832) (defBody s_law_draw_e832) (defScope s_law_draw_e832) [] [] f fd) (b : Txt K mg CR) (T : RatT P w K mg base CR) : FnOk P w K mg base (L2.CX P w) 41 f fd ["_law_tape_here", "_law_at", "_law_many"] (lSp K CR sp_law_draw_e832) :=
  okD F sc_law_draw_e832 (fun cdv A outer s H E hr => (s_cons (s_if (t_cmp o_lt (dv 1) (d_B c_len b.f_len (da_cons (dv 0) da_nil)))
    (s_one (s_ret (d_op o_mod (d_Ty c_int b.f_int (da_cons (d_ix (dv 0) (dv 1)) da_nil)) (dv 2))))
    s_nil)
    (s_cons (s_set (i := 3) sc_law_draw_e832.nd di)
    (s_cons (s_if (t_cmp o_gt (d_B c_len b.f_len (da_cons (dv 0) da_nil)) di)
    (s_one (s_set (i := 3) sc_law_draw_e832.nd (d_ix (dv 0) (d_op o_mod (d_Ty c_int b.f_int (da_cons (dv 1) da_nil)) (d_B c_len b.f_len (da_cons (dv 0) da_nil))))))
    s_nil)
    (s_one (s_ret (d_op o_mod (d_op o_mod (d_Ty c_int b.f_int (da_cons (d_op o_addP (d_op o_mulI (d_op o_mulI (d_op o_addP (dv 3) (dv 1)) (d_op o_addP (dv 1) di)) di) (d_op o_mulI (dv 1) di)) da_nil)) di) (dv 2)))))))) (fun ds M Q E h => by repeat (first | (obtain ⟨e, _⟩ := h; exact congrArg List.length e) | (obtain ⟨_, h⟩ := h))) rd_law_draw_e832
abbrev s_law_take_65a1 : Stmt := top 14
theorem sc_law_take_65a1 : FnScope ["_law_state", "_law_many"] ["_law_state", "_law_many"] (defScope s_law_take_65a1) := ⟨rfl, rfl, rfl, by decide +kernel, rfl, by decide +kernel, by decide +kernel⟩
theorem ok_law_take_65a1 (F : FunD K "_law_take" "_law_take" (defArgs s_law_take_65a1) (defBody s_law_take_65a1) (defScope s_law_take_65a1) [] [] f fd) (b : Txt K mg CR) (T : RatT P w K mg base CR) (F_law_draw_e832 : Def P w K mg base CR 41 "_law_draw" ["_law_tape_here", "_law_at", "_law_many"] sp_law_draw_e832) : FnOk P w K mg base (L2.CX P w) 42 f fd ["_law_state", "_law_many"] (lSp K CR sp_law_take_65a1) :=
  okD F sc_law_take_65a1 (fun cdv A outer s H E hr => (s_cons (s_asg (d_op o_addP (d_ix (dv 0) di) di) (g_sb (dv 0) di))
    (s_one (s_ret (d_call F_law_draw_e832 (hr.mono (by decide)) (da_cons (d_ix (dv 0) di) (da_cons (d_ix (dv 0) di) (da_cons (dv 1) da_nil)))))))) (fun ds M Q E h => by repeat (first | (obtain ⟨e, _⟩ := h; exact congrArg List.length e) | (obtain ⟨_, h⟩ := h))) rd_law_take_65a1
abbrev s_law_changed_9afa : Stmt := top 20
theorem sc_law_changed_9afa : FnScope ["_law_state", "_law_text", "_law_pair_here", "_law_way", "_law_at", "_law_char", "_law_times"] ["_law_state", "_law_text", "_law_pair_here"] (defScope s_law_changed_9afa) := ⟨rfl, rfl, rfl, by decide +kernel, rfl, by decide +kernel, by decide +kernel⟩
theorem ok_law_changed_9afa (F : FunD K "_law_changed" "_law_changed" (defArgs s_law_changed_9afa) (defBody s_law_changed_9afa) (defScope s_law_changed_9afa) [] [] f fd) (b : Txt K mg CR) (T : RatT P w K mg base CR) (F_law_take_65a1 : Def P w K mg base CR 42 "_law_take" ["_law_state", "_law_many"] sp_law_take_65a1) : FnOk P w K mg base (L2.CX P w) 43 f fd ["_law_state", "_law_text", "_law_pair_here"] (lSp K CR sp_law_changed_9afa) :=
  okD F sc_law_changed_9afa (fun cdv A outer s H E hr => (s_cons (s_set (i := 3) sc_law_changed_9afa.nd (d_call F_law_take_65a1 (hr.mono (by decide)) (da_cons (dv 0) (da_cons di da_nil))))
    (s_cons (s_if (t_cmp (T.o_lt hr) (dv 3) di)
    (s_one (s_ret (d_op (T.o_add hr) (d_ix (d_lst (da_cons ds (da_cons ds (da_cons ds da_nil)))) (dv 3)) (dv 1))))
    s_nil)
    (s_cons (s_if (t_cmp (T.o_lt hr) (dv 3) di)
    (s_one (s_ret (d_op (T.o_add hr) (dv 1) (d_ix (d_lst (da_cons ds (da_cons ds da_nil))) (d_op (T.o_sub hr) (dv 3) di)))))
    s_nil)
    (s_cons (s_if (t_cmp (T.o_eq hr) (dv 3) di)
    (s_cons (s_set (i := 6) sc_law_changed_9afa.nd (d_op (T.o_add hr) di (d_call F_law_take_65a1 (hr.mono (by decide)) (da_cons (dv 0) (da_cons di da_nil)))))
    (s_one (s_ret (d_op (T.o_add hr) (d_op (T.o_add hr) (d_Ty c_str b.f_str (da_cons (d_op (T.o_mul hr) (d_ix (dv 2) di) (dv 6)) da_nil)) ds) (d_Ty c_str b.f_str (da_cons (d_op (T.o_mul hr) (d_ix (dv 2) di) (dv 6)) da_nil))))))
    s_nil)
    (s_cons (s_if (t_cmp (T.o_eq hr) (dv 3) di)
    (s_one (s_ret (d_op (T.o_add hr) (d_ix (d_lst (da_cons ds (da_cons ds (da_cons ds (da_cons ds da_nil))))) (d_call F_law_take_65a1 (hr.mono (by decide)) (da_cons (dv 0) (da_cons di da_nil)))) (d_op o_mulS ds (d_op (T.o_add hr) di (d_call F_law_take_65a1 (hr.mono (by decide)) (da_cons (dv 0) (da_cons di da_nil))))))))
    s_nil)
    (s_cons (s_set (i := 4) sc_law_changed_9afa.nd (d_call F_law_take_65a1 (hr.mono (by decide)) (da_cons (dv 0) (da_cons (d_op (T.o_add hr) (d_B c_len b.f_len (da_cons (dv 1) da_nil)) di) da_nil))))
    (s_cons (s_set (i := 5) sc_law_changed_9afa.nd (d_ix ds (d_call F_law_take_65a1 (hr.mono (by decide)) (da_cons (dv 0) (da_cons di da_nil)))))
    (s_one (s_ret (d_op (T.o_add hr) (d_op (T.o_add hr) (d_slS (dv 1) po_noneD (po_someD (dv 4))) (d_ix (d_lst (da_cons (dv 5) (da_cons (dv 5) (da_cons ds da_nil)))) (d_call F_law_take_65a1 (hr.mono (by decide)) (da_cons (dv 0) (da_cons di da_nil))))) (d_slS (dv 1) (po_someD (d_op (T.o_add hr) (dv 4) (d_Ty c_int b.f_int (da_cons (d_cmp (T.o_gt hr) (dv 3) di) da_nil)))) po_noneD)))))))))))) (fun ds M Q E h => by repeat (first | (obtain ⟨e, _⟩ := h; exact congrArg List.length e) | (obtain ⟨_, h⟩ := h))) rd_law_changed_9afa
abbrev s_law_tape : Stmt := top 12
theorem sc_law_tape : FnScope ["_law_script", "_law_tape_here", "_law_cell", "_law_number", "_law_k", "_law_first"] ["_law_script"] (defScope s_law_tape) := ⟨rfl, rfl, rfl, by decide +kernel, rfl, by decide +kernel, by decide +kernel⟩
theorem ok_law_tape (F : FunD K "_law_tape" "_law_tape" (defArgs s_law_tape) (defBody s_law_tape) (defScope s_law_tape) [] [] f fd) (b : Txt K mg CR) (T : RatT P w K mg base CR) : FnOk P w K mg base (L2.CX P w) 41 f fd ["_law_script"] (lSp K CR sp_law_tape) :=
  okD F sc_law_tape (fun cdv A outer s H E hr => (s_cons (s_set (i := 1) sc_law_tape.nd (d_lstR da_nil))
    (s_cons (s_for PassesOwn.never rfl (i_it (dv 0)) (g_nm (i := 2) sc_law_tape.nd)
    (s_cons (s_set (i := 3) sc_law_tape.nd (d_op o_mulI di (d_Ty c_int b.f_int (da_cons (dv 2) da_nil))))
    (s_cons (s_if (t_cmp o_lt (dv 3) di)
    (s_one (s_set (i := 3) sc_law_tape.nd (d_op o_subI (d_un o_negI di) (dv 3))))
    s_nil)
    (s_one (s_if (t_cmp o_ge (dv 3) (d_op o_pow di di))
    (s_one (s_for PassesOwn.never rfl (i_rng1 b.f_range (da_cons di da_nil)) (g_nm (i := 4) sc_law_tape.nd)
    (s_one (s_if (t_cmp o_gt (dv 3) di)
    (s_cons (s_expr (d_app (pe_bm PySem.F.plainAttrs_list PySem.F.slot_list_append PySem.F.type_list_append mt_append (dv 1) (da_cons (d_op o_mod (d_Ty c_int b.f_int (da_cons (dv 3) da_nil)) di) da_nil))))
    (s_one (s_set (i := 3) sc_law_tape.nd (d_op o_fdiv (dv 3) di))))
    s_nil))))
    (s_one (s_for PassesOwn.never rfl (i_rng1 b.f_range (da_cons di da_nil)) (g_nm (i := 4) sc_law_tape.nd)
    (s_cons (s_set (i := 5) sc_law_tape.nd (d_op o_mod (d_Ty c_int b.f_int (da_cons (d_op o_addP (d_op o_addP (d_op o_mulI (dv 3) di) (d_op o_mulI (dv 4) di)) di) da_nil)) di))
    (s_one (s_expr (d_app (pe_bm PySem.F.plainAttrs_list PySem.F.slot_list_append PySem.F.type_list_append mt_append (dv 1) (da_cons (d_op o_mod (d_Ty c_int b.f_int (da_cons (d_op o_addP (d_op o_mulI (dv 5) di) (d_op o_fdiv (dv 5) di)) da_nil)) di) da_nil)))))))))))))
    (s_one (s_retF (dv 1)))))) (fun ds M Q E h => by repeat (first | (obtain ⟨e, _⟩ := h; exact congrArg List.length e) | (obtain ⟨_, h⟩ := h))) rd_law_tape
abbrev s_law_6017 : Stmt := top 22
theorem sc_law_6017 : FnScope ["_law_script", "_law_state", "_law_groups", "_law_numbers", "_law_k", "_law_pair_here", "_law_text", "_law_top", "_law_long", "_law_number"] ["_law_script"] (defScope s_law_6017) := ⟨rfl, rfl, rfl, by decide +kernel, rfl, by decide +kernel, by decide +kernel⟩
theorem ok_law_6017 (F : FunD K "law" "law" (defArgs s_law_6017) (defBody s_law_6017) (defScope s_law_6017) [] [] f fd) (b : Txt K mg CR) (T : RatT P w K mg base CR) (ST : Op1 P w K mg base CR "__str__" sp_ratstr) (F_law_fits_2a01 : Def P w K mg base CR 43 "_law_fits" ["_law_text"] sp_law_fits_2a01) (F_law_pair_e2e7 : Def P w K mg base CR 42 "_law_pair" ["_law_top", "_law_bottom"] sp_law_pair_e2e7) (F_law_take_65a1 : Def P w K mg base CR 42 "_law_take" ["_law_state", "_law_many"] sp_law_take_65a1) (F_law_changed_9afa : Def P w K mg base CR 43 "_law_changed" ["_law_state", "_law_text", "_law_pair_here"] sp_law_changed_9afa) (F_law_tape : Def P w K mg base CR 41 "_law_tape" ["_law_script"] sp_law_tape) : FnOk P w K mg base (L2.CX P w) 44 f fd ["_law_script"] (lSp K CR sp_law_6017) :=
  okD F sc_law_6017 (fun cdv A outer s H E hr => (s_cons (s_set (i := 1) sc_law_6017.nd (d_lstR (da_cons (d_call F_law_tape (hr.mono (by decide)) (da_cons (dv 0) da_nil)) (da_cons di da_nil))))
    (s_cons (s_set (i := 2) sc_law_6017.nd (d_op (T.o_add hr) di (d_call F_law_take_65a1 (hr.mono (by decide)) (da_cons (dv 1) (da_cons di da_nil)))))
    (s_cons (s_set (i := 3) sc_law_6017.nd (d_lst (da_cons di (da_cons di da_nil))))
    (s_cons (s_for PassesOwn.never rfl (i_rng1 b.f_range (da_cons (dv 2) da_nil)) (g_nm (i := 4) sc_law_6017.nd)
    (s_one (s_setLc (i := 3) (own := [("_law_number", 9)]) (g := (gName 9)) rfl sc_law_6017.nd (i_it (dv 3)) (by kernel_rfl) (cg_nm (j := 9) (by decide)) (mono_nm (j := 9)) (fun _ _ _ _ _ => (pg_name (i := 9) sc_law_6017.nd rfl (by first | exact Or.inl rfl | exact Or.inr rfl))) (fun _ _ _ _ _ => ts_nil) (fun _ _ _ _ _ => (d_op (T.o_add hr) (d_op (T.o_mul hr) (dv 9) di) (d_call F_law_take_65a1 (hr.mono (by decide)) (da_cons (dv 1) (da_cons di da_nil))))) (sw_true rfl rfl rfl (by kernel_rfl)))))
    (s_cons (s_set (i := 5) sc_law_6017.nd (d_call F_law_pair_e2e7 (hr.mono (by decide)) (da_cons (d_ix (dv 3) di) (da_cons (d_B (c_max2 rfl) b.f_max (da_cons di (da_cons (d_ix (dv 3) di) da_nil))) da_nil))))
    (s_cons (s_if (t_cmp (T.o_eq hr) (d_call F_law_take_65a1 (hr.mono (by decide)) (da_cons (dv 1) (da_cons di da_nil))) di)
    (s_one (s_set (i := 5) sc_law_6017.nd (d_tup (da_cons (d_ix (dv 5) di) (da_cons di da_nil)))))
    s_nil)
    (s_cons (s_if (t_cmp (T.o_eq hr) (d_call F_law_take_65a1 (hr.mono (by decide)) (da_cons (dv 1) (da_cons di da_nil))) di)
    (s_one (s_set (i := 5) sc_law_6017.nd (d_tup (da_cons (d_op (T.o_sub hr) di (d_ix (dv 5) di)) (da_cons (d_ix (dv 5) di) da_nil)))))
    s_nil)
    (s_cons (s_set (i := 6) sc_law_6017.nd (d_Ty (c_strR ST hr) b.f_str (da_cons (d_ix (dv 5) di) da_nil)))
    (s_cons (s_if (t_cmp (T.o_ne hr) (d_ix (dv 5) di) di)
    (s_one (s_set (i := 6) sc_law_6017.nd (d_op (T.o_add hr) (d_op (T.o_add hr) (dv 6) ds) (d_Ty (c_strR ST hr) b.f_str (da_cons (d_ix (dv 5) di) da_nil)))))
    s_nil)
    (s_cons (s_if (t_bool (w_or (t_cmp (T.o_ne hr) (d_Ty (c_strR ST hr) b.f_str (da_cons (T.ini.d_mk T.g (hr.mono (by decide)) (da_cons (d_ix (dv 5) di) (da_cons (d_ix (dv 5) di) da_nil))) da_nil)) (dv 6)) (w_or1 (t_not (t_tru (d_call F_law_fits_2a01 (hr.mono (by decide)) (da_cons (dv 6) da_nil)))))))
    (s_one (s_ret db))
    s_nil)
    (s_cons (s_for PassesOwn.never rfl (i_rng1 b.f_range (da_cons di da_nil)) (g_nm (i := 4) sc_law_6017.nd)
    (s_one (s_if (t_not (t_tru (d_call F_law_fits_2a01 (hr.mono (by decide)) (da_cons (d_call F_law_changed_9afa (hr.mono (by decide)) (da_cons (dv 1) (da_cons (dv 6) (da_cons (dv 5) da_nil)))) da_nil))))
    (s_one (s_ret db))
    s_nil)))
    (s_cons (s_set (i := 7) sc_law_6017.nd (d_op (T.o_add hr) (d_op (T.o_add hr) (d_op (T.o_mul hr) (d_ix (dv 5) di) (d_op o_pow di di)) (d_op o_pow di di)) (d_call F_law_take_65a1 (hr.mono (by decide)) (da_cons (dv 1) (da_cons di da_nil)))))
    (s_cons (s_set (i := 8) sc_law_6017.nd (d_call F_law_pair_e2e7 (hr.mono (by decide)) (da_cons (dv 7) (da_cons (d_op (T.o_add hr) di (d_op (T.o_mul hr) (d_ix (dv 5) di) (d_ix (d_lst (da_cons di (da_cons (d_op o_pow di di) (da_cons (d_op o_pow di di) da_nil)))) (d_call F_law_take_65a1 (hr.mono (by decide)) (da_cons (dv 1) (da_cons di da_nil)))))) da_nil))))
    (s_cons (s_set (i := 6) sc_law_6017.nd (d_Ty (c_strR ST hr) b.f_str (da_cons (d_ix (dv 8) di) da_nil)))
    (s_cons (s_if (t_cmp (T.o_ne hr) (d_ix (dv 8) di) di)
    (s_one (s_set (i := 6) sc_law_6017.nd (d_op (T.o_add hr) (d_op (T.o_add hr) (dv 6) ds) (d_Ty (c_strR ST hr) b.f_str (da_cons (d_ix (dv 8) di) da_nil)))))
    s_nil)
    (s_one (s_ret (v_and (d_cmp (T.o_eq hr) (d_Ty (c_strR ST hr) b.f_str (da_cons (T.ini.d_mk T.g (hr.mono (by decide)) (da_cons (d_ix (dv 8) di) (da_cons (d_ix (dv 8) di) da_nil))) da_nil)) (dv 6)) (v_one (d_call F_law_fits_2a01 (hr.mono (by decide)) (da_cons (dv 6) da_nil)))))))))))))))))))))) (fun ds M Q E h => by repeat (first | (obtain ⟨e, _⟩ := h; exact congrArg List.length e) | (obtain ⟨_, h⟩ := h))) rd_law_6017
end
def d_Ratio___init__ : He.DefD := ⟨("Ratio", some "__init__"), "__init__", "Ratio.__init__", defArgs s_Ratio___init__, defBody s_Ratio___init__, defScope s_Ratio___init__, [.int 1], []⟩
def d_Ratio___add__ : He.DefD := ⟨("Ratio", some "__add__"), "__add__", "Ratio.__add__", defArgs s_Ratio___add__, defBody s_Ratio___add__, defScope s_Ratio___add__, [], []⟩
def d_Ratio___sub__ : He.DefD := ⟨("Ratio", some "__sub__"), "__sub__", "Ratio.__sub__", defArgs s_Ratio___sub__, defBody s_Ratio___sub__, defScope s_Ratio___sub__, [], []⟩
def d_Ratio___mul__ : He.DefD := ⟨("Ratio", some "__mul__"), "__mul__", "Ratio.__mul__", defArgs s_Ratio___mul__, defBody s_Ratio___mul__, defScope s_Ratio___mul__, [], []⟩
def d_Ratio___neg__ : He.DefD := ⟨("Ratio", some "__neg__"), "__neg__", "Ratio.__neg__", defArgs s_Ratio___neg__, defBody s_Ratio___neg__, defScope s_Ratio___neg__, [], []⟩
def d_Ratio___eq__ : He.DefD := ⟨("Ratio", some "__eq__"), "__eq__", "Ratio.__eq__", defArgs s_Ratio___eq__, defBody s_Ratio___eq__, defScope s_Ratio___eq__, [], []⟩
def d_Ratio___lt__ : He.DefD := ⟨("Ratio", some "__lt__"), "__lt__", "Ratio.__lt__", defArgs s_Ratio___lt__, defBody s_Ratio___lt__, defScope s_Ratio___lt__, [], []⟩
def d_Ratio___le__ : He.DefD := ⟨("Ratio", some "__le__"), "__le__", "Ratio.__le__", defArgs s_Ratio___le__, defBody s_Ratio___le__, defScope s_Ratio___le__, [], []⟩
def d_Ratio___gt__ : He.DefD := ⟨("Ratio", some "__gt__"), "__gt__", "Ratio.__gt__", defArgs s_Ratio___gt__, defBody s_Ratio___gt__, defScope s_Ratio___gt__, [], []⟩
def d_Ratio___ge__ : He.DefD := ⟨("Ratio", some "__ge__"), "__ge__", "Ratio.__ge__", defArgs s_Ratio___ge__, defBody s_Ratio___ge__, defScope s_Ratio___ge__, [], []⟩
def d_Ratio___abs__ : He.DefD := ⟨("Ratio", some "__abs__"), "__abs__", "Ratio.__abs__", defArgs s_Ratio___abs__, defBody s_Ratio___abs__, defScope s_Ratio___abs__, [], []⟩
def d_Ratio___str__ : He.DefD := ⟨("Ratio", some "__str__"), "__str__", "Ratio.__str__", defArgs s_Ratio___str__, defBody s_Ratio___str__, defScope s_Ratio___str__, [], []⟩
def d_BadNumber___init__ : He.DefD := ⟨("BadNumber", some "__init__"), "__init__", "BadNumber.__init__", defArgs s_BadNumber___init__, defBody s_BadNumber___init__, defScope s_BadNumber___init__, [], []⟩
def fs : List He5.DefA := [⟨fun K => He5.wf K (He.ga K "Ratio") "staticmethod" "of", "of", "Ratio.of", defArgs s_Ratio_of, defBody s_Ratio_of, defScope s_Ratio_of, [], []⟩]
def d_read_digits : He.DefD := ⟨("read_digits", none), "read_digits", "read_digits", defArgs s_read_digits, defBody s_read_digits, defScope s_read_digits, [], []⟩
def d_law_is : He.DefD := ⟨("_law_is", none), "_law_is", "_law_is", defArgs s_law_is, defBody s_law_is, defScope s_law_is, [], []⟩
def d_law_common : He.DefD := ⟨("_law_common", none), "_law_common", "_law_common", defArgs s_law_common, defBody s_law_common, defScope s_law_common, [], []⟩
def d_law_digits : He.DefD := ⟨("_law_digits", none), "_law_digits", "_law_digits", defArgs s_law_digits, defBody s_law_digits, defScope s_law_digits, [], []⟩
def d_law_read : He.DefD := ⟨("_law_read", none), "_law_read", "_law_read", defArgs s_law_read, defBody s_law_read, defScope s_law_read, [], []⟩
def d_law_fits_2a01 : He.DefD := ⟨("_law_fits", none), "_law_fits", "_law_fits", defArgs s_law_fits_2a01, defBody s_law_fits_2a01, defScope s_law_fits_2a01, [], []⟩
def d_law_pair_e2e7 : He.DefD := ⟨("_law_pair", none), "_law_pair", "_law_pair", defArgs s_law_pair_e2e7, defBody s_law_pair_e2e7, defScope s_law_pair_e2e7, [], []⟩
def d_law_draw_e832 : He.DefD := ⟨("_law_draw", none), "_law_draw", "_law_draw", defArgs s_law_draw_e832, defBody s_law_draw_e832, defScope s_law_draw_e832, [], []⟩
def d_law_take_65a1 : He.DefD := ⟨("_law_take", none), "_law_take", "_law_take", defArgs s_law_take_65a1, defBody s_law_take_65a1, defScope s_law_take_65a1, [], []⟩
def d_law_changed_9afa : He.DefD := ⟨("_law_changed", none), "_law_changed", "_law_changed", defArgs s_law_changed_9afa, defBody s_law_changed_9afa, defScope s_law_changed_9afa, [], []⟩
def d_law_tape : He.DefD := ⟨("_law_tape", none), "_law_tape", "_law_tape", defArgs s_law_tape, defBody s_law_tape, defScope s_law_tape, [], []⟩
def d_law_6017 : He.DefD := ⟨("law", none), "law", "law", defArgs s_law_6017, defBody s_law_6017, defScope s_law_6017, [], []⟩
def fn : List He.DefD := [d_read_digits, d_law_is, d_law_common, d_law_digits, d_law_read, d_law_fits_2a01, d_law_pair_e2e7, d_law_draw_e832, d_law_take_65a1, d_law_changed_9afa, d_law_tape, d_law_6017, d_Ratio___init__, d_Ratio___add__, d_Ratio___sub__, d_Ratio___mul__, d_Ratio___neg__, d_Ratio___eq__, d_Ratio___lt__, d_Ratio___le__, d_Ratio___gt__, d_Ratio___ge__, d_Ratio___abs__, d_Ratio___str__, d_BadNumber___init__]
def fa : List He.Fa := [.glo "read_digits", .glo "_law_is", .glo "_law_common", .glo "_law_digits", .glo "_law_read", .glo "_law_fits", .glo "_law_pair", .glo "_law_draw", .glo "_law_take", .glo "_law_changed", .glo "_law_tape", .glo "law", .free "isinstance", .free "abs", .free "str", .free "int", .str "DIGITS" "0123456789", .free "len", .int "MOST_DIGITS" (9), .free "bool", .free "range", .free "max", .cls "Ratio", .noat "Ratio" "top", .noat "Ratio" "bottom", .glo "Ratio", .mkr "Ratio", .meth "Ratio" "__add__", .meth "Ratio" "__sub__", .meth "Ratio" "__mul__", .meth "Ratio" "__neg__", .meth "Ratio" "__eq__", .meth "Ratio" "__lt__", .meth "Ratio" "__le__", .meth "Ratio" "__gt__", .meth "Ratio" "__ge__", .meth "Ratio" "__abs__", .meth "Ratio" "__str__"]
abbrev R : PySem.W.OpenRow := PySem.W.OpenLaw.row PySem.Challenge.rw_plumbnet_k04_written_forms_of_fractions
abbrev hk : PySem.W.Hook := hookE 6 (fun K => ratCk K && (errB K "BadNumber" "text" && (errIB K "BadNumber" "SurveyError" && statB K "Ratio" "of"))) fa fn fs
def ob (s : PySem.W.SharedT) : He.AlD := obsEG 6 (fun K => ratCk K && (errB K "BadNumber" "text" && (errIB K "BadNumber" "SurveyError" && statB K "Ratio" "of"))) fa fn fs (HandSHeadRun.getT s)
theorem ob_eq (s : PySem.W.SharedT) : ob s = hk.obs s.abs := obsEG_eq (HandSHeadRun.getT_eq s)
theorem run (w : World) : HandSHeadRun.RunEqI R (PySem.W.view R.prog [0, 22]) hk ob 3000 ((["_wall", "SurveyError", "BadNumber", "ZeroDivisor", "MOST_DIGITS", "DIGITS", "read_digits", "Ratio", "_law_tape", "_law_draw", "_law_take", "_law_common", "_law_pair", "_law_is", "_law_digits", "_law_read", "_law_changed", "_law_fits"] : List PySem.Str)) w := by
  unfold HandSHeadRun.RunEqI
  kernel_rfl
theorem facts {P : Program} {w : World} {K : PySem.W.Frag} {h : Heap} {mg : Str → Option Value} {f : Addr} (X : K.In h) (G : h.Ns mainGlobals mg) (hfa : mg ("law" : Str) = some (.ref f)) (c : He.SaysD fa fn K) (cr : ratCk K = true) (pt : P.given.tree = none) (cb : errB K "BadNumber" "text" = true) (ci : errIB K "BadNumber" "SurveyError" = true) (cs : statB K "Ratio" "of" = true) (ca : He5.SaysA [] fs K) :
    ∃ fd : FuncData, (∀ (s : Shared) (v : Value), BindsTo s fd ⟨[v], []⟩ [("_law_script", v)]) ∧ ∀ base : Heap, K.In base → base.Ns mainGlobals mg → FnOk P w K mg base (L2.CX P w) 44 f fd ["_law_script"] (lSp K (He.ga K "Ratio") sp_law_6017) := by
  obtain ⟨fd_read_digits, U_read_digits⟩ := c.def_ 0 (d := d_read_digits) rfl
  obtain ⟨fd_law_is, U_law_is⟩ := c.def_ 1 (d := d_law_is) rfl
  obtain ⟨fd_law_common, U_law_common⟩ := c.def_ 2 (d := d_law_common) rfl
  obtain ⟨fd_law_digits, U_law_digits⟩ := c.def_ 3 (d := d_law_digits) rfl
  obtain ⟨fd_law_read, U_law_read⟩ := c.def_ 4 (d := d_law_read) rfl
  obtain ⟨fd_law_fits_2a01, U_law_fits_2a01⟩ := c.def_ 5 (d := d_law_fits_2a01) rfl
  obtain ⟨fd_law_pair_e2e7, U_law_pair_e2e7⟩ := c.def_ 6 (d := d_law_pair_e2e7) rfl
  obtain ⟨fd_law_draw_e832, U_law_draw_e832⟩ := c.def_ 7 (d := d_law_draw_e832) rfl
  obtain ⟨fd_law_take_65a1, U_law_take_65a1⟩ := c.def_ 8 (d := d_law_take_65a1) rfl
  obtain ⟨fd_law_changed_9afa, U_law_changed_9afa⟩ := c.def_ 9 (d := d_law_changed_9afa) rfl
  obtain ⟨fd_law_tape, U_law_tape⟩ := c.def_ 10 (d := d_law_tape) rfl
  obtain ⟨fd_law_6017, U_law_6017⟩ := c.def_ 11 (d := d_law_6017) rfl
  obtain ⟨fd_Ratio___init__, U_Ratio___init__⟩ := c.def_ 12 (d := d_Ratio___init__) rfl
  obtain ⟨fd_Ratio___add__, U_Ratio___add__⟩ := c.def_ 13 (d := d_Ratio___add__) rfl
  obtain ⟨fd_Ratio___sub__, U_Ratio___sub__⟩ := c.def_ 14 (d := d_Ratio___sub__) rfl
  obtain ⟨fd_Ratio___mul__, U_Ratio___mul__⟩ := c.def_ 15 (d := d_Ratio___mul__) rfl
  obtain ⟨fd_Ratio___neg__, U_Ratio___neg__⟩ := c.def_ 16 (d := d_Ratio___neg__) rfl
  obtain ⟨fd_Ratio___eq__, U_Ratio___eq__⟩ := c.def_ 17 (d := d_Ratio___eq__) rfl
  obtain ⟨fd_Ratio___lt__, U_Ratio___lt__⟩ := c.def_ 18 (d := d_Ratio___lt__) rfl
  obtain ⟨fd_Ratio___le__, U_Ratio___le__⟩ := c.def_ 19 (d := d_Ratio___le__) rfl
  obtain ⟨fd_Ratio___gt__, U_Ratio___gt__⟩ := c.def_ 20 (d := d_Ratio___gt__) rfl
  obtain ⟨fd_Ratio___ge__, U_Ratio___ge__⟩ := c.def_ 21 (d := d_Ratio___ge__) rfl
  obtain ⟨fd_Ratio___abs__, U_Ratio___abs__⟩ := c.def_ 22 (d := d_Ratio___abs__) rfl
  obtain ⟨fd_Ratio___str__, U_Ratio___str__⟩ := c.def_ 23 (d := d_Ratio___str__) rfl
  obtain ⟨fd_BadNumber___init__, U_BadNumber___init__⟩ := c.def_ 24 (d := d_BadNumber___init__) rfl
  obtain ⟨fd_Ratio_of, U_Ratio_of⟩ := ca.def_ 0 rfl
  have e := hfa.symm.trans (He.glo_ok X G (c.fact 11 (f := .glo "law") rfl))
  cases e
  have bt := FunD.bindsA (ps := ["_law_script"]) U_law_6017 fun _ _ _ _ _ _ us hl => match us, hl with | [_], _ => rfl
  have b : Txt K mg (He.ga K "Ratio") := ⟨ratCk_gcd X G cr, He.free_ok X G (c.fact 12 (f := .free "isinstance") rfl), He.free_ok X G (c.fact 13 (f := .free "abs") rfl), He.free_ok X G (c.fact 14 (f := .free "str") rfl), He.free_ok X G (c.fact 15 (f := .free "int") rfl), He.str_ok X G (c.fact 16 (f := .str "DIGITS" "0123456789") rfl), He.free_ok X G (c.fact 17 (f := .free "len") rfl), He.int_ok X G (c.fact 18 (f := .int "MOST_DIGITS" (9)) rfl), He.free_ok X G (c.fact 19 (f := .free "bool") rfl), He.free_ok X G (c.fact 20 (f := .free "range") rfl), He.free_ok X G (c.fact 21 (f := .free "max") rfl)⟩
  refine ⟨fd_law_6017, fun s v => bt s [v] rfl, fun base _ _ => ?_⟩
  have T0 : RatT0 P w K mg base (He.ga K "Ratio") := ⟨He.cls_ok (c.fact 22 (f := .cls "Ratio") rfl), He.noat_ok (c.fact 23 (f := .noat "Ratio" "top") rfl), He.noat_ok (c.fact 24 (f := .noat "Ratio" "bottom") rfl), He.glo_ok X G (c.fact 25 (f := .glo "Ratio") rfl), ratCk_first cr, ratCk_isf cr, mkOk_of (st := s_Ratio___init__) (x := "__init__") (qual := "Ratio.__init__") U_Ratio___init__ (He.mkr_ok (c.fact 26 (f := .mkr "Ratio") rfl)) (ok_Ratio___init__ U_Ratio___init__ b (He.cls_ok (c.fact 22 (f := .cls "Ratio") rfl)) (He.noat_ok (c.fact 23 (f := .noat "Ratio" "top") rfl)) (He.noat_ok (c.fact 24 (f := .noat "Ratio" "bottom") rfl)) (ratCk_seer cr) pt) fun T kV doc pm an cdv ct a b c d => ⟨⟨_, rfl, rfl⟩, ⟨_, rfl, rfl⟩⟩⟩
  have T : RatT P w K mg base (He.ga K "Ratio") := ⟨T0, op2_of (st := s_Ratio___add__) (x := "__add__") (qual := "Ratio.__add__") U_Ratio___add__ (He.meth_ok (c.fact 27 (f := .meth "Ratio" "__add__") rfl)) (ok_Ratio___add__ U_Ratio___add__ b T0) fun _ _ _ _ _ _ _ _ => rfl,
    op2_of (st := s_Ratio___sub__) (x := "__sub__") (qual := "Ratio.__sub__") U_Ratio___sub__ (He.meth_ok (c.fact 28 (f := .meth "Ratio" "__sub__") rfl)) (ok_Ratio___sub__ U_Ratio___sub__ b T0) fun _ _ _ _ _ _ _ _ => rfl,
    op2_of (st := s_Ratio___mul__) (x := "__mul__") (qual := "Ratio.__mul__") U_Ratio___mul__ (He.meth_ok (c.fact 29 (f := .meth "Ratio" "__mul__") rfl)) (ok_Ratio___mul__ U_Ratio___mul__ b T0) fun _ _ _ _ _ _ _ _ => rfl,
    op1_of (st := s_Ratio___neg__) (x := "__neg__") (qual := "Ratio.__neg__") U_Ratio___neg__ (He.meth_ok (c.fact 30 (f := .meth "Ratio" "__neg__") rfl)) (ok_Ratio___neg__ U_Ratio___neg__ b T0) fun _ _ _ _ _ _ _ => rfl,
    op2_of (st := s_Ratio___eq__) (x := "__eq__") (qual := "Ratio.__eq__") U_Ratio___eq__ (He.meth_ok (c.fact 31 (f := .meth "Ratio" "__eq__") rfl)) (ok_Ratio___eq__ U_Ratio___eq__ b T0) fun _ _ _ _ _ _ _ _ => rfl,
    op2_of (st := s_Ratio___lt__) (x := "__lt__") (qual := "Ratio.__lt__") U_Ratio___lt__ (He.meth_ok (c.fact 32 (f := .meth "Ratio" "__lt__") rfl)) (ok_Ratio___lt__ U_Ratio___lt__ b T0) fun _ _ _ _ _ _ _ _ => rfl,
    op2_of (st := s_Ratio___le__) (x := "__le__") (qual := "Ratio.__le__") U_Ratio___le__ (He.meth_ok (c.fact 33 (f := .meth "Ratio" "__le__") rfl)) (ok_Ratio___le__ U_Ratio___le__ b T0) fun _ _ _ _ _ _ _ _ => rfl,
    op2_of (st := s_Ratio___gt__) (x := "__gt__") (qual := "Ratio.__gt__") U_Ratio___gt__ (He.meth_ok (c.fact 34 (f := .meth "Ratio" "__gt__") rfl)) (ok_Ratio___gt__ U_Ratio___gt__ b T0) fun _ _ _ _ _ _ _ _ => rfl,
    op2_of (st := s_Ratio___ge__) (x := "__ge__") (qual := "Ratio.__ge__") U_Ratio___ge__ (He.meth_ok (c.fact 35 (f := .meth "Ratio" "__ge__") rfl)) (ok_Ratio___ge__ U_Ratio___ge__ b T0) fun _ _ _ _ _ _ _ _ => rfl,
    op1_of (st := s_Ratio___abs__) (x := "__abs__") (qual := "Ratio.__abs__") U_Ratio___abs__ (He.meth_ok (c.fact 36 (f := .meth "Ratio" "__abs__") rfl)) (ok_Ratio___abs__ U_Ratio___abs__ b T0) fun _ _ _ _ _ _ _ => rfl⟩
  have ST : Op1 P w K mg base (He.ga K "Ratio") "__str__" sp_ratstr := op1_of (st := s_Ratio___str__) (x := "__str__") (qual := "Ratio.__str__") U_Ratio___str__ (He.meth_ok (c.fact 37 (f := .meth "Ratio" "__str__") rfl)) (ok_Ratio___str__ U_Ratio___str__ b T0) fun _ _ _ _ _ _ _ => rfl
  have BE := errB_ok X G cb
  have BT : ErrT P w K mg base "BadNumber" (He.ga K "BadNumber") "text" := errT_of (st := s_BadNumber___init__) (qual := "BadNumber.__init__") BE U_BadNumber___init__ (ok_BadNumber___init__ U_BadNumber___init__ BE.o BE.no) fun _ _ _ _ _ _ _ _ => rfl
  have BI := errIB_ok X G ci
  have G_read_digits : Def P w K mg base (He.ga K "Ratio") 41 "read_digits" ["word"] sp_read_digits := def_mk (st := s_read_digits) (qual := "read_digits") U_read_digits (He.glo_ok X G (c.fact 0 (f := .glo "read_digits") rfl)) (ok_read_digits U_read_digits b T) fun _ _ _ _ _ _ us hl => match us, hl with | [_], _ => rfl
  have SO : StatM P w K mg base (He.ga K "Ratio") 42 "Ratio" (He.ga K "Ratio") "of" ["text"] (sp_Ratio_of (He.ga K "BadNumber")) := statM_of (st := s_Ratio_of) (qual := "Ratio.of") (nm := "of") cs (He.glo_ok X G (c.fact 25 (f := .glo "Ratio") rfl)) U_Ratio_of (ok_Ratio_of U_Ratio_of b T ST BT G_read_digits) fun _ _ _ _ _ _ us hl => match us, hl with | [_], _ => rfl
  have G_law_is : Def P w K mg base (He.ga K "Ratio") 41 "_law_is" ["_law_actual", "_law_pair_here"] sp_law_is := def_mk (st := s_law_is) (qual := "_law_is") U_law_is (He.glo_ok X G (c.fact 1 (f := .glo "_law_is") rfl)) (ok_law_is U_law_is b T) fun _ _ _ _ _ _ us hl => match us, hl with | [_, _], _ => rfl
  have G_law_common : Def P w K mg base (He.ga K "Ratio") 41 "_law_common" ["_law_one", "_law_other"] sp_law_common := def_mk (st := s_law_common) (qual := "_law_common") U_law_common (He.glo_ok X G (c.fact 2 (f := .glo "_law_common") rfl)) (ok_law_common U_law_common b T) fun _ _ _ _ _ _ us hl => match us, hl with | [_, _], _ => rfl
  have G_law_digits : Def P w K mg base (He.ga K "Ratio") 41 "_law_digits" ["_law_text"] sp_law_digits := def_mk (st := s_law_digits) (qual := "_law_digits") U_law_digits (He.glo_ok X G (c.fact 3 (f := .glo "_law_digits") rfl)) (ok_law_digits U_law_digits b T) fun _ _ _ _ _ _ us hl => match us, hl with | [_], _ => rfl
  have G_law_read : Def P w K mg base (He.ga K "Ratio") 42 "_law_read" ["_law_text"] sp_law_read := def_mk (st := s_law_read) (qual := "_law_read") U_law_read (He.glo_ok X G (c.fact 4 (f := .glo "_law_read") rfl)) (ok_law_read U_law_read b T G_law_common G_law_digits) fun _ _ _ _ _ _ us hl => match us, hl with | [_], _ => rfl
  have G_law_fits_2a01 : Def P w K mg base (He.ga K "Ratio") 43 "_law_fits" ["_law_text"] sp_law_fits_2a01 := def_mk (st := s_law_fits_2a01) (qual := "_law_fits") U_law_fits_2a01 (He.glo_ok X G (c.fact 5 (f := .glo "_law_fits") rfl)) (ok_law_fits_2a01 U_law_fits_2a01 b T BT SO BI G_law_is G_law_read) fun _ _ _ _ _ _ us hl => match us, hl with | [_], _ => rfl
  have G_law_pair_e2e7 : Def P w K mg base (He.ga K "Ratio") 42 "_law_pair" ["_law_top", "_law_bottom"] sp_law_pair_e2e7 := def_mk (st := s_law_pair_e2e7) (qual := "_law_pair") U_law_pair_e2e7 (He.glo_ok X G (c.fact 6 (f := .glo "_law_pair") rfl)) (ok_law_pair_e2e7 U_law_pair_e2e7 b T G_law_common) fun _ _ _ _ _ _ us hl => match us, hl with | [_, _], _ => rfl
  have G_law_draw_e832 : Def P w K mg base (He.ga K "Ratio") 41 "_law_draw" ["_law_tape_here", "_law_at", "_law_many"] sp_law_draw_e832 := def_mk (st := s_law_draw_e832) (qual := "_law_draw") U_law_draw_e832 (He.glo_ok X G (c.fact 7 (f := .glo "_law_draw") rfl)) (ok_law_draw_e832 U_law_draw_e832 b T) fun _ _ _ _ _ _ us hl => match us, hl with | [_, _, _], _ => rfl
  have G_law_take_65a1 : Def P w K mg base (He.ga K "Ratio") 42 "_law_take" ["_law_state", "_law_many"] sp_law_take_65a1 := def_mk (st := s_law_take_65a1) (qual := "_law_take") U_law_take_65a1 (He.glo_ok X G (c.fact 8 (f := .glo "_law_take") rfl)) (ok_law_take_65a1 U_law_take_65a1 b T G_law_draw_e832) fun _ _ _ _ _ _ us hl => match us, hl with | [_, _], _ => rfl
  have G_law_changed_9afa : Def P w K mg base (He.ga K "Ratio") 43 "_law_changed" ["_law_state", "_law_text", "_law_pair_here"] sp_law_changed_9afa := def_mk (st := s_law_changed_9afa) (qual := "_law_changed") U_law_changed_9afa (He.glo_ok X G (c.fact 9 (f := .glo "_law_changed") rfl)) (ok_law_changed_9afa U_law_changed_9afa b T G_law_take_65a1) fun _ _ _ _ _ _ us hl => match us, hl with | [_, _, _], _ => rfl
  have G_law_tape : Def P w K mg base (He.ga K "Ratio") 41 "_law_tape" ["_law_script"] sp_law_tape := def_mk (st := s_law_tape) (qual := "_law_tape") U_law_tape (He.glo_ok X G (c.fact 10 (f := .glo "_law_tape") rfl)) (ok_law_tape U_law_tape b T) fun _ _ _ _ _ _ us hl => match us, hl with | [_], _ => rfl
  exact ok_law_6017 U_law_6017 b T ST G_law_fits_2a01 G_law_pair_e2e7 G_law_take_65a1 G_law_changed_9afa G_law_tape
end DL
open PySem PySem.W PySem.Calls PyProof.Rows
theorem PySem.Challenge.cw_plumbnet_k04_written_forms_of_fractions_holds : PySem.Challenge.rw_plumbnet_k04_written_forms_of_fractions.Holds := by
  w_on; o_law
  refine HandSHeadRun.head_imp (r := DL.R) (q := view DL.R.prog [0, 22]) (H := DL.hk) (ob := DL.ob) (M := 3000) (loose := (["_wall", "SurveyError", "BadNumber", "ZeroDivisor", "MOST_DIGITS", "DIGITS", "read_digits", "Ratio", "_law_tape", "_law_draw", "_law_take", "_law_common", "_law_pair", "_law_is", "_law_digits", "_law_read", "_law_changed", "_law_fits"] : List PySem.Str)) (d := HandSHeadRun.topDef DL.R.prog 22) (kwd := []) DL.ob_eq
    DL.run (by kernel_rfl) (by kernel_rfl) (by kernel_rfl) (by rfl) (by first | assumption | decide +kernel) (by decide +kernel) ⟨rfl, rfl, rfl, rfl, rfl, by decide +kernel⟩ ?hw ?hc
  case hw => w_witness2
  case hc =>
    refine DL.walkD (l := PySem.Challenge.rw_plumbnet_k04_written_forms_of_fractions) (n := 63) (k := 44) (x := "_law_script") DL.sp_law_6017 rfl (by decide) (by kernel_rfl) ⟨rfl, by decide, by decide⟩ (fun ns M hl => ⟨ns, rfl, hl, fun _ => rfl⟩) ?F
    intro w mg fa h Y G hm0
    obtain ⟨K, KX, ⟨cr, c⟩, ca⟩ := Y
    obtain ⟨cr, cb⟩ := He.ba cr
    obtain ⟨cb, ci⟩ := He.ba cb
    obtain ⟨ci, cs⟩ := He.ba ci
    have hm : mg ("law" : PySem.Str) = some (.ref fa) := by
      have e : (HandSHeadRun.topDef DL.R.prog 22).name = ("law" : PySem.Str) := by kernel_rfl
      rw [← e]; exact hm0
    obtain ⟨fd, hb, hF⟩ := DL.facts (P := (PySem.Challenge.rw_plumbnet_k04_written_forms_of_fractions).prog) (w := w) KX G hm c cr (by kernel_rfl) cb ci cs ca
    exact ⟨K, fd, He.ga K "Ratio", KX, hb, hF⟩

