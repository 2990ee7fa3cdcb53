import PyProof.Rows.All
import Wide.All
import OpenK.AllK
import Wide.FinOn
import KE.KStateDown
import HandS.ForMost
import HandS.Exc
import HandS.TryOnly
import HandS.ExcOwn
import HandS.ExcInit
import HandS.WordsExc
import HandS.Zip
import HandS.Walk
import HandS.Wide
import HandS.Gcd
import HandS.Flow
import HandS.Text
import HandS.IsInst
import HandS.TupAny
import HandS.Defaults
import HandS.HeadEnd
import HandS.HeadHook1
import HandS.HeadHook2
import KE.IntBitsLaws
import HandS.WideBits
import HandS.ExcIs
import HandS.OwnEq
import HandS.Zip0
import PyProof.Draws
import HandS.FStr
import HandS.Deep
import KE.KCallOwn
import PyProof.StrBlock2
import HandS.HeadNt
import KE.KExcIs
import HandS.WordsDict
import HandS.More
import HandS.TryMany
import HandS.SetFor
import KE.KDictPairs
import HandS.Head0
import HandS.Head1
import HandS.Head2
import HandS.Head3
import PySem.Challenge.RW_plumbnet_k11_rows_and_twins_of_books
set_option Elab.async false
set_option linter.all false
set_option maxRecDepth 100000
set_option maxHeartbeats 0
namespace DL
open PySem PySem.Spec PyProof.Rows L2
/-! The data level: what never changes is told by value, what changes stands in a small memory. -/

inductive D where
  | non | bl (b : Bool) | int (i : Int) | str (x : Str) | ref (a : Addr) | ty (n : String)
  | rat (q : Rat)
  | tup (xs : List D)
  /-- a pair that an iterator makes -/
  | prs (xs : List D)
  | lst (xs : List D)
  | scr (xs : List D)
  | obj (C : Addr) (ns : List Str) (xs : List D)

/-- what may change -/
inductive MO where
  | lst (xs : List D)
  | ins (C : Addr) (ns : List Str) (xs : List D)
  | dic (ks : List Str) (xs : List D)
abbrev Mem := Addr → Option MO
def mput (M : Mem) (a : Addr) (o : MO) : Mem := fun b => if b = a then some o else M b
def mdel (M : Mem) (a : Addr) : Mem := fun b => if b = a then none else M b
theorem mput_same {M : Mem} {a o} : mput M a o a = some o := if_pos rfl
theorem mput_ne {M : Mem} {a b o} (h : b ≠ a) : mput M a o b = M b := if_neg h
theorem mdel_same {M : Mem} {a} : mdel M a a = none := if_pos rfl
theorem mdel_ne {M : Mem} {a b} (h : b ≠ a) : mdel M a b = M b := if_neg h
theorem mput_mput {M : Mem} {a o u} : mput (mput M a o) a u = mput M a u := by
  funext b; unfold mput; split <;> rfl
theorem mdel_mput {M : Mem} {a o} (h : M a = none) : mdel (mput M a o) a = M := by
  funext b; unfold mdel mput; split
  · rename_i e; rw [e, h]
  · rfl
theorem mput_self {M : Mem} {a o} (h : M a = some o) : mput M a o = M := by
  funext b; unfold mput; split
  · rename_i e; rw [e, h]
  · rfl

def ratF (q : Rat) : List (Str × V) := [("top", .int q.num), ("bottom", .int (q.den : Int))]

/-- the text's own: the written part, the class of fractions -/
structure Own where
  K : PySem.W.Frag
  CR : Addr
  /-- what is hidden: lists that a comprehension is making -/
  P : Addr → Prop

/-- a tuple, a list that stays as it is -/
def Fre (O : Own) (M : Mem) (a : Addr) : Prop := M a = none ∧ ¬ O.P a
/-- what a tuple of the text's own is: it has no attributes -/
def TupO (o : Obj) : Prop := o.dict = none
def FT (O : Own) (H : Hp) (M : Mem) (a : Addr) (vs : List V) : Prop := Fre O M a ∧ ∃ o, TupO o ∧ H a = some (.frz o (.tup vs))
def FQ (O : Own) (H : Hp) (M : Mem) (a : Addr) (vs : List V) : Prop := Fre O M a ∧ H a = some (.tup vs)
def FL (O : Own) (H : Hp) (M : Mem) (a : Addr) (vs : List V) : Prop := Fre O M a ∧ H a = some (.lst vs)
/-- a list that may be read alone (the script) -/
def FS (O : Own) (H : Hp) (M : Mem) (a : Addr) (vs : List V) : Prop := (Fre O M a ∧ Rd H a (.lst vs)) ∨ SqL O.K (fun _ => none) a vs
section
variable (O : Own) (H : Hp) (M : Mem)
mutual
def Rep : D → V → Prop
  | .non, v => v = .non
  | .bl b, v => v = .bl b
  | .int i, v => v = .int i
  | .str x, v => v = .str x
  | .ref a, v => v = .ref a
  | .ty n, v => v = .ty n
  | .rat q, v => ∃ a dx, v = .ref a ∧ Fre O M a ∧ H a = some (.ins O.CR dx (ratF q))
  | .tup xs, v => ∃ a vs, v = .ref a ∧ FT O H M a vs ∧ Reps xs vs
  | .prs xs, v => ∃ a vs, v = .ref a ∧ FQ O H M a vs ∧ Reps xs vs
  | .lst xs, v => ∃ a vs, v = .ref a ∧ FL O H M a vs ∧ Reps xs vs
  | .scr xs, v => ∃ a vs, v = .ref a ∧ FS O H M a vs ∧ Reps xs vs
  | .obj C ns xs, v => ∃ a dx vs, v = .ref a ∧ Fre O M a ∧ H a = some (.ins C dx (ns.zip vs)) ∧ ns.length = vs.length ∧ Reps xs vs
def Reps : List D → List V → Prop
  | [], vs => vs = []
  | d :: ds, vs => ∃ v r, vs = v :: r ∧ Rep d v ∧ Reps ds r
end
end
/-- what is not in the memory stays, and does not come into it; what is hidden stays as it is -/
structure Fz (O : Own) (H : Hp) (M : Mem) (H' : Hp) (M' : Mem) : Prop where
  st : ∀ a o, Fre O M a → H a = some o → H' a = some o ∧ M' a = none
  hid : ∀ a, O.P a → H' a = H a
theorem Fz.refl {O H M} : Fz O H M H M := ⟨fun _ _ h e => ⟨e, h.1⟩, fun _ _ => rfl⟩
theorem Fz.trans {O H M H1 M1 H2 M2} (a : Fz O H M H1 M1) (b : Fz O H1 M1 H2 M2) : Fz O H M H2 M2 := ⟨fun x o h e =>
  let ⟨e1, h1⟩ := a.st x o h e
  b.st x o ⟨h1, h.2⟩ e1, fun x h => (b.hid x h).trans (a.hid x h)⟩
theorem rd_fz {O H M H' M'} {a : Addr} {u : HO} (z : Fz O H M H' M') (m : Fre O M a) (r : Rd H a u) : Fre O M' a ∧ Rd H' a u := by
  rcases r with r | ⟨o, r⟩
  · exact ⟨⟨(z.st a _ m r).2, m.2⟩, .inl (z.st a _ m r).1⟩
  · exact ⟨⟨(z.st a _ m r).2, m.2⟩, .inr ⟨o, (z.st a _ m r).1⟩⟩
theorem FT.mono {O H M H' M'} {a : Addr} {vs : List V} (z : Fz O H M H' M') (f : FT O H M a vs) : FT O H' M' a vs := let ⟨f1, o, t, e⟩ := f; ⟨⟨(z.st a _ f1 e).2, f1.2⟩, o, t, (z.st a _ f1 e).1⟩
theorem FQ.mono {O H M H' M'} {a : Addr} {vs : List V} (z : Fz O H M H' M') (f : FQ O H M a vs) : FQ O H' M' a vs := ⟨⟨(z.st a _ f.1 f.2).2, f.1.2⟩, (z.st a _ f.1 f.2).1⟩
theorem FL.mono {O H M H' M'} {a : Addr} {vs : List V} (z : Fz O H M H' M') (f : FL O H M a vs) : FL O H' M' a vs := ⟨⟨(z.st a _ f.1 f.2).2, f.1.2⟩, (z.st a _ f.1 f.2).1⟩
theorem FS.mono {O H M H' M'} {a : Addr} {vs : List V} (z : Fz O H M H' M') (f : FS O H M a vs) : FS O H' M' a vs := f.elim (fun f => .inl (rd_fz z f.1 f.2)) .inr
theorem sqL_none {K H} {a : Addr} {vs : List V} (h : SqL K (fun _ => none) a vs) : SqL K H a vs := by
  rcases h with (h | ⟨_, h⟩) | h
  · cases h
  · cases h
  · exact .inr h
theorem FT.rd {O H M} {a : Addr} {vs : List V} (f : FT O H M a vs) : Rd H a (.tup vs) := let ⟨_, o, _, e⟩ := f; .inr ⟨o, e⟩
theorem FT.sq {O H M} {a : Addr} {vs : List V} (f : FT O H M a vs) : SqT O.K H a vs := .inl f.rd
theorem FQ.sq {O H M} {a : Addr} {vs : List V} (f : FQ O H M a vs) : SqT O.K H a vs := .of f.2
theorem FL.sq {O H M} {a : Addr} {vs : List V} (f : FL O H M a vs) : SqL O.K H a vs := .of f.2
theorem FS.sq {O H M} {a : Addr} {vs : List V} (f : FS O H M a vs) : SqL O.K H a vs := f.elim (fun f => .inl f.2) sqL_none
section
variable {O : Own} {H H' : Hp} {M M' : Mem}
mutual
theorem Rep.mono (z : Fz O H M H' M') : ∀ {d : D} {v : V}, Rep O H M d v → Rep O H' M' d v
  | .non, _, h => h
  | .bl _, _, h => h
  | .int _, _, h => h
  | .str _, _, h => h
  | .ref _, _, h => h
  | .ty _, _, h => h
  | .rat q, v, h => by
    obtain ⟨a, dx, e, m, h⟩ := h
    exact ⟨a, dx, e, ⟨(z.st a _ m h).2, m.2⟩, (z.st a _ m h).1⟩
  | .tup xs, v, h => by
    obtain ⟨a, vs, e, f, r⟩ := h
    exact ⟨a, vs, e, f.mono z, Reps.mono z r⟩
  | .prs xs, v, h => by
    obtain ⟨a, vs, e, f, r⟩ := h
    exact ⟨a, vs, e, f.mono z, Reps.mono z r⟩
  | .lst xs, v, h => by
    obtain ⟨a, vs, e, f, r⟩ := h
    exact ⟨a, vs, e, f.mono z, Reps.mono z r⟩
  | .scr xs, v, h => by
    obtain ⟨a, vs, e, f, r⟩ := h
    exact ⟨a, vs, e, f.mono z, Reps.mono z r⟩
  | .obj C ns xs, v, h => by
    obtain ⟨a, dx, vs, e, m, h, l, r⟩ := h
    exact ⟨a, dx, vs, e, ⟨(z.st a _ m h).2, m.2⟩, (z.st a _ m h).1, l, Reps.mono z r⟩
theorem Reps.mono (z : Fz O H M H' M') : ∀ {ds : List D} {vs : List V}, Reps O H M ds vs → Reps O H' M' ds vs
  | [], _, h => h
  | d :: ds, vs, h => by
    obtain ⟨v, r, e, h1, h2⟩ := h
    exact ⟨v, r, e, Rep.mono z h1, Reps.mono z h2⟩
end
end
theorem Reps.length {O H M} : ∀ {ds : List D} {vs : List V}, Reps O H M ds vs → ds.length = vs.length
  | [], _, h => by rw [show _ = [] from h]; rfl
  | d :: ds, vs, h => by
    obtain ⟨v, r, rfl, _, h2⟩ := h
    simp [Reps.length h2]
theorem Reps.get {O H M} : ∀ {ds : List D} {vs : List V} {i : Nat} {d : D}, Reps O H M ds vs → ds[i]? = some d → ∃ v, vs[i]? = some v ∧ Rep O H M d v
  | [], _, _, _, _, e => by simp at e
  | d :: ds, vs, i, x, h, e => by
    obtain ⟨v, r, rfl, h1, h2⟩ := h
    cases i with
    | zero => simp at e; subst e; exact ⟨v, rfl, h1⟩
    | succ i => exact Reps.get (i := i) h2 (by simpa using e)
theorem Reps.getV {O H M} {ds : List D} {vs : List V} {i : Nat} {v : V} (h : Reps O H M ds vs) (e : vs[i]? = some v) : ∃ d, ds[i]? = some d ∧ Rep O H M d v := by
  have hl := h.length
  have hi := (List.getElem?_eq_some_iff.mp e).1
  have hd : ds[i]? = some ds[i] := List.getElem?_eq_getElem (by omega)
  obtain ⟨v', e', r⟩ := h.get hd
  rw [e] at e'; cases e'
  exact ⟨_, hd, r⟩
theorem Reps.append {O H M} : ∀ {ds es : List D} {vs ws : List V}, Reps O H M ds vs → Reps O H M es ws → Reps O H M (ds ++ es) (vs ++ ws)
  | [], _, _, _, h, h' => by rw [show _ = _ from h]; exact h'
  | d :: ds, es, vs, ws, h, h' => by
    obtain ⟨v, r, rfl, h1, h2⟩ := h
    exact ⟨v, r ++ ws, rfl, h1, Reps.append h2 h'⟩
theorem Reps.one {O H M} {d : D} {v : V} (h : Rep O H M d v) : Reps O H M [d] [v] := ⟨v, [], rfl, h, rfl⟩
theorem Reps.set {O H M} {d : D} {v : V} (q : Rep O H M d v) : ∀ {ds : List D} {vs : List V} (i : Nat), Reps O H M ds vs → Reps O H M (ds.set i d) (vs.set i v)
  | [], _, _, h => by rw [show _ = _ from h]; rfl
  | x :: ds, vs, i, h => by
    obtain ⟨w, r, rfl, h1, h2⟩ := h
    cases i with
    | zero => exact ⟨v, r, rfl, q, h2⟩
    | succ i => exact ⟨w, r.set i v, rfl, h1, Reps.set q i h2⟩
theorem Reps.take {O H M} : ∀ {ds : List D} {vs : List V} (n : Nat), Reps O H M ds vs → Reps O H M (ds.take n) (vs.take n)
  | [], _, n, h => by rw [show _ = _ from h]; cases n <;> rfl
  | d :: ds, vs, n, h => by
    obtain ⟨v, r, rfl, h1, h2⟩ := h
    cases n with
    | zero => rfl
    | succ n => exact ⟨v, r.take n, rfl, h1, Reps.take n h2⟩
theorem Reps.drop {O H M} : ∀ {ds : List D} {vs : List V} (n : Nat), Reps O H M ds vs → Reps O H M (ds.drop n) (vs.drop n)
  | [], _, n, h => by rw [show _ = _ from h]; cases n <;> rfl
  | d :: ds, vs, n, h => by
    obtain ⟨v, r, rfl, h1, h2⟩ := h
    cases n with
    | zero => exact ⟨v, r, rfl, h1, h2⟩
    | succ n => exact Reps.drop n h2

/-- what the memory tells of an address -/
def RepO (O : Own) (H : Hp) (M : Mem) (a : Addr) : MO → Prop
  | .lst ds => ∃ vs, H a = some (.lst vs) ∧ Reps O H M ds vs
  | .ins C ns ds => ∃ dx vs, H a = some (.ins C dx (ns.zip vs)) ∧ ns.length = vs.length ∧ Reps O H M ds vs
  | .dic ks ds => ∃ vs, H a = some (.dK ((ks.map Sum.inr).zip vs)) ∧ ks.length = vs.length ∧ Reps O H M ds vs
structure Good (O : Own) (H : Hp) (M : Mem) : Prop where
  at_ : ∀ a o, M a = some o → RepO O H M a o
  hid : ∀ a, O.P a → M a = none ∧ H a ≠ none
theorem RepO.mono {O H M H' M'} {a : Addr} {o : MO} (z : Fz O H M H' M') (h : ∀ u, H a = some u → H' a = some u) (r : RepO O H M a o) : RepO O H' M' a o := by
  cases o with
  | lst ds => obtain ⟨vs, e, r⟩ := r; exact ⟨vs, h _ e, r.mono z⟩
  | ins C ns ds => obtain ⟨dx, vs, e, l, r⟩ := r; exact ⟨dx, vs, h _ e, l, r.mono z⟩
  | dic ks ds => obtain ⟨vs, e, l, r⟩ := r; exact ⟨vs, h _ e, l, r.mono z⟩
theorem RepO.there {O H M} {a : Addr} {o : MO} (r : RepO O H M a o) : H a ≠ none := by
  cases o with
  | lst ds => obtain ⟨vs, q, _⟩ := r; rw [q]; simp
  | ins C ns ds => obtain ⟨dx, vs, q, _⟩ := r; rw [q]; simp
  | dic ks ds => obtain ⟨vs, q, _⟩ := r; rw [q]; simp
theorem Good.none {O H M} (g : Good O H M) {a : Addr} (h : H a = none) : Fre O M a := by
  refine ⟨?_, fun p => (g.hid a p).2 h⟩
  cases e : M a with
  | none => rfl
  | some o => exact absurd h (g.at_ a o e).there
theorem Good.noP {O H M} (g : Good O H M) {a : Addr} {o : MO} (h : M a = some o) : ¬ O.P a := fun p => by rw [(g.hid a p).1] at h; cases h
/-- a new object by value: the memory is as it was -/
theorem fz_new {O H M} {p : Addr} {o : HO} (g : Good O H M) (h : H p = none) : Fz O H M (upd H p o) M :=
  ⟨fun a u m e => ⟨by rw [upd_ne (ne_of_none e h)]; exact e, m.1⟩, fun a q => upd_ne fun z => (g.hid a q).2 (z ▸ h)⟩
theorem good_new {O H M} {p : Addr} {o : HO} (g : Good O H M) (h : H p = none) : Good O (upd H p o) M := ⟨fun a u m =>
  (g.at_ a u m).mono (fz_new g h) fun v e => by rw [upd_ne (ne_of_none e h)]; exact e, fun a q => ⟨(g.hid a q).1, by rw [(fz_new g h).hid a q]; exact (g.hid a q).2⟩⟩
/-- a new object that may change -/
theorem fz_newM {O H M} {p : Addr} {o : HO} {u : MO} (g : Good O H M) (h : H p = none) : Fz O H M (upd H p o) (mput M p u) := ⟨fun a v m e =>
  have n := ne_of_none e h
  ⟨by rw [upd_ne n]; exact e, by rw [mput_ne n]; exact m.1⟩, fun a q => upd_ne fun z => (g.hid a q).2 (z ▸ h)⟩
/-- an object of the memory is written -/
theorem fz_put {O H M} {p : Addr} {o : HO} {u w : MO} (g : Good O H M) (h : M p = some w) : Fz O H M (upd H p o) (mput M p u) := ⟨fun a v m e => by
  have n : a ≠ p := fun z => by have m1 := m.1; rw [z, h] at m1; cases m1
  exact ⟨by rw [upd_ne n]; exact e, by rw [mput_ne n]; exact m.1⟩, fun a q => upd_ne fun z => g.noP h (z ▸ q)⟩
theorem good_put {O H M} {p : Addr} {o : HO} {u : MO} (g : Good O H M) (np : ¬ O.P p) (z : Fz O H M (upd H p o) (mput M p u)) (r : RepO O (upd H p o) (mput M p u) p u) : Good O (upd H p o) (mput M p u) := ⟨fun a w m => by
  by_cases e : a = p
  · subst e
    rw [mput_same] at m; cases m
    exact r
  · rw [mput_ne e] at m
    exact (g.at_ a w m).mono z fun v q => by rw [upd_ne e]; exact q, fun a q => by
  have e : a ≠ p := fun z => np (z ▸ q)
  rw [mput_ne e, upd_ne e]
  exact g.hid a q⟩
/-- an object of the memory is let go: from now on it stays as it is -/
theorem fz_del {O H M} {p : Addr} : Fz O H M H (mdel M p) := ⟨fun a v m e => ⟨e, by
  by_cases n : a = p
  · rw [n]; exact mdel_same
  · rw [mdel_ne n]; exact m.1⟩, fun _ _ => rfl⟩
theorem good_del {O H M} {p : Addr} (g : Good O H M) : Good O H (mdel M p) := ⟨fun a w m => by
  have n : a ≠ p := fun z => by rw [z, mdel_same] at m; cases m
  rw [mdel_ne n] at m
  exact (g.at_ a w m).mono fz_del fun _ q => q, fun a q => ⟨by
  by_cases n : a = p
  · rw [n]; exact mdel_same
  · rw [mdel_ne n]; exact (g.hid a q).1, (g.hid a q).2⟩⟩
theorem rep_frz {O H M} {p : Addr} {ds : List D} (g : Good O H M) (h : M p = some (.lst ds)) : Rep O H (mdel M p) (.lst ds) (.ref p) := by
  obtain ⟨vs, e, r⟩ := g.at_ p _ h
  exact ⟨p, vs, rfl, ⟨⟨mdel_same, g.noP h⟩, e⟩, r.mono fz_del⟩
theorem rep_frzO {O H M} {p C : Addr} {ns : List Str} {ds : List D} (g : Good O H M) (h : M p = some (.ins C ns ds)) : Rep O H (mdel M p) (.obj C ns ds) (.ref p) := by
  obtain ⟨dx, vs, e, l, r⟩ := g.at_ p _ h
  exact ⟨p, dx, vs, rfl, ⟨mdel_same, g.noP h⟩, e, l, r.mono fz_del⟩

/-! ### slots -/
abbrev DS0 := List (Option D)
def RepS (O : Own) (H : Hp) (M : Mem) (δ : DS0) (σ : L2.St) : Prop := δ.length = σ.length ∧ ∀ (i : Nat) (d : D), δ[i]? = some (some d) → ∃ v, σ[i]? = some (some v) ∧ Rep O H M d v
theorem RepS.mono {O H M H' M'} {δ : DS0} {σ : L2.St} (z : Fz O H M H' M') (r : RepS O H M δ σ) : RepS O H' M' δ σ := ⟨r.1, fun i d e => let ⟨v, h, q⟩ := r.2 i d e; ⟨v, h, q.mono z⟩⟩
theorem RepS.set {O H M} {δ : DS0} {σ : L2.St} {i : Nat} {d : D} {v : V} (r : RepS O H M δ σ) (q : Rep O H M d v) : RepS O H M (δ.set i (some d)) (σ.set i (some v)) := by
  refine ⟨by simp [r.1], fun j e h => ?_⟩
  by_cases n : j = i
  · subst n
    have hj : j < δ.length := by
      have := (List.getElem?_eq_some_iff.mp h).1
      simpa using this
    rw [List.getElem?_set_self hj] at h
    cases h
    exact ⟨v, List.getElem?_set_self (by rw [← r.1]; exact hj), q⟩
  · rw [List.getElem?_set_ne (Ne.symm n)] at h
    obtain ⟨w, h1, h2⟩ := r.2 j e h
    exact ⟨w, by rw [List.getElem?_set_ne (Ne.symm n)]; exact h1, h2⟩
theorem RepS.unset {O H M} {δ : DS0} {σ : L2.St} {i : Nat} {v : Option V} (r : RepS O H M δ σ) : RepS O H M (δ.set i none) (σ.set i v) := by
  refine ⟨by simp [r.1], fun j e h => ?_⟩
  by_cases n : j = i
  · subst n
    have hj : j < δ.length := by
      have := (List.getElem?_eq_some_iff.mp h).1
      simpa using this
    rw [List.getElem?_set_self hj] at h
    cases h
  · rw [List.getElem?_set_ne (Ne.symm n)] at h
    obtain ⟨w, h1, h2⟩ := r.2 j e h
    exact ⟨w, by rw [List.getElem?_set_ne (Ne.symm n)]; exact h1, h2⟩

/-! ### readings over data -/
abbrev DK := D → Mem → Prop
abbrev DE := DS0 → Mem → DK → Prop
abbrev DT := DS0 → Mem → (Bool → Mem → Prop) → Prop
abbrev DA := DS0 → Mem → (List D → Mem → Prop) → Prop
structure DEnds where
  nx : DS0 → Mem → Prop
  rt : DK
  bk : DS0 → Mem → Prop := fun _ _ => False
  ct : DS0 → Mem → Prop := fun _ _ => False
abbrev DSt := DEnds → DS0 → Mem → Prop
abbrev DG := D → DS0 → Mem → (DS0 → Mem → Prop) → Prop
abbrev D2 := D → D → Mem → DK → Prop
abbrev D1 := D → Mem → DK → Prop
abbrev DC := List D → Mem → DK → Prop

section
variable (O : Own)
def LfV (H : Hp) (M : Mem) (Q : DK) : VK := fun v H' => ∃ d M', Fz O H M H' M' ∧ Good O H' M' ∧ Rep O H' M' d v ∧ Q d M'
def LfS (H : Hp) (M : Mem) (Q : DS0 → Mem → Prop) : L2.St → Hp → Prop := fun σ' H' => ∃ δ' M', Fz O H M H' M' ∧ Good O H' M' ∧ RepS O H' M' δ' σ' ∧ Q δ' M'
structure EndsOk (H : Hp) (M : Mem) (Dd : DEnds) (Dn : Ends) : Prop where
  nx : ∀ σ H', LfS O H M Dd.nx σ H' → Dn.nx σ H'
  rt : ∀ v H', LfV O H M Dd.rt v H' → Dn.rt v H'
  bk : ∀ σ H', LfS O H M Dd.bk σ H' → Dn.bk σ H'
  ct : ∀ σ H', LfS O H M Dd.ct σ H' → Dn.ct σ H'
end
/-! ### errors -/
/-- an error: its class, its fields' names and values -/
abbrev DX := Addr → List Str → List D → Mem → Prop
abbrev DXS := Addr → List Str → List D → DS0 → Mem → Prop
/-- what an error carries: its own dict -/
def ErrD (O : Own) (H : Hp) (M : Mem) (d : Option Addr) (ns : List Str) (fs : List D) : Prop :=
  (ns = [] ∧ fs = [] ∧ d = none) ∨ ns ≠ [] ∧ ∃ dd vs, d = some dd ∧ Fre O M dd ∧ H dd = some (.xd (ns.zip vs)) ∧ ns.length = vs.length ∧ Reps O H M fs vs
def LfX (O : Own) (H : Hp) (M : Mem) (E : DX) : XK := fun c d H' => ∃ C ns fs M', c = .ref C ∧ Fz O H M H' M' ∧ Good O H' M' ∧ ErrD O H' M' d ns fs ∧ E C ns fs M'
def LfXS (O : Own) (H : Hp) (M : Mem) (E : DXS) : WX := fun c d σ' H' => ∃ C ns fs δ' M', c = .ref C ∧ Fz O H M H' M' ∧ Good O H' M' ∧ RepS O H' M' δ' σ' ∧ ErrD O H' M' d ns fs ∧ E C ns fs δ' M'
def XL (O : Own) (H : Hp) (M : Mem) (E : DXS) (W : WX) : Prop := ∀ c d σ' H', LfXS O H M E c d σ' H' → W c d σ' H'
theorem XL.trans {O : Own} {H M H1 M1 E W} (x : XL O H M E W) (z : Fz O H M H1 M1) : XL O H1 M1 E W := fun c d σ' H' ⟨C, ns, fs, δ', M', e, z', r⟩ => x c d σ' H' ⟨C, ns, fs, δ', M', e, z.trans z', r⟩
/-- what stands fixed through a body -/
structure Bs where
  K : PySem.W.Frag
  CR : Addr
  E : DXS
  W : WX
abbrev noE : DXS := fun _ _ _ _ _ => False
abbrev noW : WX := fun _ _ _ _ => False
theorem XL.no {O : Own} {H M W} : XL O H M noE W := fun _ _ _ _ ⟨_, _, _, _, _, _, _, _, _, _, q⟩ => q.elim
section
variable (B : Bs)
def lE (w : DE) : TE := fun σ H Q => ∃ P δ M Qd, RepS ⟨B.K, B.CR, P⟩ H M δ σ ∧ Good ⟨B.K, B.CR, P⟩ H M ∧ XL ⟨B.K, B.CR, P⟩ H M B.E B.W ∧ w δ M Qd ∧ ∀ v H', LfV ⟨B.K, B.CR, P⟩ H M Qd v H' → Q v H'
def lT (w : DT) : TT := fun σ H Q => ∃ P δ M Qd, RepS ⟨B.K, B.CR, P⟩ H M δ σ ∧ Good ⟨B.K, B.CR, P⟩ H M ∧ XL ⟨B.K, B.CR, P⟩ H M B.E B.W ∧ w δ M Qd ∧ ∀ b H' M', Fz ⟨B.K, B.CR, P⟩ H M H' M' → Good ⟨B.K, B.CR, P⟩ H' M' → Qd b M' → Q b H'
def lA (w : DA) : TA := fun σ H Q => ∃ P δ M Qd, RepS ⟨B.K, B.CR, P⟩ H M δ σ ∧ Good ⟨B.K, B.CR, P⟩ H M ∧ XL ⟨B.K, B.CR, P⟩ H M B.E B.W ∧ w δ M Qd ∧ ∀ vs H' ds M', Fz ⟨B.K, B.CR, P⟩ H M H' M' → Good ⟨B.K, B.CR, P⟩ H' M' → Reps ⟨B.K, B.CR, P⟩ H' M' ds vs → Qd ds M' → Q vs H'
def lS (w : DSt) : TS := fun Dn σ H => ∃ P δ M Dd, RepS ⟨B.K, B.CR, P⟩ H M δ σ ∧ Good ⟨B.K, B.CR, P⟩ H M ∧ XL ⟨B.K, B.CR, P⟩ H M B.E B.W ∧ w Dd δ M ∧ EndsOk ⟨B.K, B.CR, P⟩ H M Dd Dn
def lG (w : DG) : TG := fun v σ H Q => ∃ P d δ M Qd, Rep ⟨B.K, B.CR, P⟩ H M d v ∧ RepS ⟨B.K, B.CR, P⟩ H M δ σ ∧ Good ⟨B.K, B.CR, P⟩ H M ∧ XL ⟨B.K, B.CR, P⟩ H M B.E B.W ∧ w d δ M Qd ∧ ∀ σ' H', LfS ⟨B.K, B.CR, P⟩ H M Qd σ' H' → Q σ' H'
end
section
variable (K : PySem.W.Frag) (CR : Addr)
def l2 (r : D2) : R2 := fun x y H Q => ∃ P a b M Qd, Rep ⟨K, CR, P⟩ H M a x ∧ Rep ⟨K, CR, P⟩ H M b y ∧ Good ⟨K, CR, P⟩ H M ∧ r a b M Qd ∧ ∀ v H', LfV ⟨K, CR, P⟩ H M Qd v H' → Q v H'
def l1 (r : D1) : V → Hp → VK → Prop := fun x H Q => ∃ P a M Qd, Rep ⟨K, CR, P⟩ H M a x ∧ Good ⟨K, CR, P⟩ H M ∧ r a M Qd ∧ ∀ v H', LfV ⟨K, CR, P⟩ H M Qd v H' → Q v H'
def lC (r : DC) : List V → Hp → VK → Prop := fun xs H Q => ∃ P ds M Qd, Reps ⟨K, CR, P⟩ H M ds xs ∧ Good ⟨K, CR, P⟩ H M ∧ r ds M Qd ∧ ∀ v H', LfV ⟨K, CR, P⟩ H M Qd v H' → Q v H'
end
section
variable {O : Own}
theorem LfV.trans {H M H1 M1 Q v H'} (z : Fz O H M H1 M1) (h : LfV O H1 M1 Q v H') : LfV O H M Q v H' := let ⟨d, M', z', g, r, q⟩ := h; ⟨d, M', z.trans z', g, r, q⟩
theorem LfS.trans {H M H1 M1 Q v H'} (z : Fz O H M H1 M1) (h : LfS O H1 M1 Q v H') : LfS O H M Q v H' := let ⟨d, M', z', g, r, q⟩ := h; ⟨d, M', z.trans z', g, r, q⟩
theorem LfV.here {H M Q v} {d : D} (g : Good O H M) (r : Rep O H M d v) (q : Q d M) : LfV O H M Q v H := ⟨d, M, Fz.refl, g, r, q⟩
theorem EndsOk.trans {H M H1 M1 Dd Dn} (z : Fz O H M H1 M1) (k : EndsOk O H M Dd Dn) : EndsOk O H1 M1 Dd Dn :=
  ⟨fun σ H' h => k.nx σ H' (h.trans z), fun σ H' h => k.rt σ H' (h.trans z), fun σ H' h => k.bk σ H' (h.trans z), fun σ H' h => k.ct σ H' (h.trans z)⟩
end
/-! ### a rule with a stronger reading -/
section
variable {X : Cx}
theorem _root_.L2.PE.imp {e : Expr} {t t' : TE} (h : PE X e t) (i : ∀ σ H Q, t' σ H Q → t σ H Q) : PE X e t' := ⟨fun p s σ H Q I q => h.run p s σ H Q I (i σ H Q q)⟩
theorem _root_.L2.PT.imp {e : Expr} {t t' : TT} (h : PT X e t) (i : ∀ σ H Q, t' σ H Q → t σ H Q) : PT X e t' := ⟨fun p s σ H Q I q => h.run p s σ H Q I (i σ H Q q)⟩
theorem _root_.L2.PW.imp {e : Expr} {t t' : TT} (h : PW X e t) (i : ∀ σ H Q, t' σ H Q → t σ H Q) : PW X e t' := ⟨fun w p s σ H Q I q => h.run w p s σ H Q I (i σ H Q q)⟩
theorem _root_.L2.PA.imp {e : List Expr} {t t' : TA} (h : PA X e t) (i : ∀ σ H Q, t' σ H Q → t σ H Q) : PA X e t' := ⟨fun o p s σ H Q I q => h.run o p s σ H Q I (i σ H Q q)⟩
theorem _root_.L2.PS.imp {e : Stmt} {t t' : TS} (h : PS X e t) (i : ∀ Dn σ H, t' Dn σ H → t Dn σ H) : PS X e t' := ⟨fun p s σ H Dn I q => h.run p s σ H Dn I (i Dn σ H q)⟩
theorem _root_.L2.PSs.imp {e : List Stmt} {t t' : TS} (h : PSs X e t) (i : ∀ Dn σ H, t' Dn σ H → t Dn σ H) : PSs X e t' := ⟨fun p s σ H Dn I q => h.run p s σ H Dn I (i Dn σ H q)⟩
theorem _root_.L2.PG.imp {e : Expr} {t t' : TG} (h : PG X e t) (i : ∀ v σ H Q, t' v σ H Q → t v σ H Q) : PG X e t' := ⟨fun p s σ H v u Q I r q => h.run p s σ H v u Q I r (i v σ H Q q)⟩
theorem _root_.L2.OpR.imp {f : Value → Value → Sem Value} {r r' : R2} (h : OpR X f r) (i : ∀ x y H Q, r' x y H Q → r x y H Q) : OpR X f r' := fun p s σ H x y v u Q I rx ry q => h p s σ H x y v u Q I rx ry (i x y H Q q)
theorem _root_.L2.CallR.imp {f : Value} {r r' : List V → Hp → VK → Prop} (h : CallR X f r) (i : ∀ x H Q, r' x H Q → r x H Q) : CallR X f r' := fun p s σ H x u Q I rx q => h p s σ H x u Q I rx (i x H Q q)
theorem _root_.L2.UnR.imp {f : Value → Sem Value} {r r' : V → Hp → VK → Prop} (h : UnR X f r) (i : ∀ x H Q, r' x H Q → r x H Q) : UnR X f r' := fun p s σ H x u Q I rx q => h p s σ H x u Q I rx (i x H Q q)
end
/-! ### names, constants, operators -/
def dVar (i : Nat) : DE := fun δ M Q => ∃ d, δ[i]? = some (some d) ∧ Q d M
def dC (d : D) : DE := fun _ M Q => Q d M
def dOp (r : D2) (a b : DE) : DE := fun δ M Q => a δ M fun x M1 => b δ M1 fun y M2 => r x y M2 Q
def dUn (r : D1) (a : DE) : DE := fun δ M Q => a δ M fun x M1 => r x M1 Q
def dNil : DA := fun _ M Q => Q [] M
def dCons (a : DE) (t : DA) : DA := fun δ M Q => a δ M fun x M1 => t δ M1 fun xs M2 => Q (x :: xs) M2
def dCB (r : DC) (t : DA) : DE := fun δ M Q => t δ M fun ds M1 => r ds M1 Q
section
variable {X : Cx} {CR : Addr} {E : DXS} {W : WX} {a b c : Expr} {wa wb wc : DE} {pos : Pos}
abbrev bs (X : Cx) (CR : Addr) (E : DXS) (W : WX) : Bs := ⟨X.K, CR, E, W⟩
abbrev PD (X : Cx) (B : Bs) (e : Expr) (w : DE) : Prop := PE X e (lE B w)
abbrev PDT (X : Cx) (B : Bs) (e : Expr) (w : DT) : Prop := PT X e (lT B w)
abbrev PDW (X : Cx) (B : Bs) (e : Expr) (w : DT) : Prop := PW X e (lT B w)
abbrev PDA (X : Cx) (B : Bs) (es : List Expr) (w : DA) : Prop := PA X es (lA B w)
abbrev PDS (X : Cx) (B : Bs) (s : Stmt) (w : DSt) : Prop := PS X s (lS B w)
abbrev PDSs (X : Cx) (B : Bs) (s : List Stmt) (w : DSt) : Prop := PSs X s (lS B w)
abbrev PDG (X : Cx) (B : Bs) (e : Expr) (w : DG) : Prop := PG X e (lG B w)
theorem dv (i : Nat) {x : Str} (hN : X.N[i]? = some x := by rfl) (hv : Vis X.env.scope x := by first | exact Or.inl rfl | exact Or.inr (Or.inl rfl) | exact Or.inr (Or.inr rfl)) (hd : (x == ("__debug__" : Str)) = false := by decide)
    (hcd : (x == ("__classdict__" : Str)) = false := by decide) : PD X (bs X CR E W) (.Name x pos) (dVar i) := by
  refine (pv i hN hv hd hcd).imp fun σ H Q h => ?_
  obtain ⟨P, δ, M, Qd, hS, g, x, ⟨d, e, q⟩, k⟩ := h
  obtain ⟨v, ev, r⟩ := hS.2 i d e
  exact ⟨v, ev, k v H (LfV.here g r q)⟩
theorem pd_c {e : Expr} {d : D} {v : V} (h : PE X e (tC v)) (r : ∀ O H M, Rep O H M d v) : PD X (bs X CR E W) e (dC d) := by
  refine h.imp fun σ H Q h => ?_
  obtain ⟨P, δ, M, Qd, hS, g, x, q, k⟩ := h
  exact k v H (LfV.here g (r _ _ _) q)
theorem di {i j} : PD X (bs X CR E W) (.Constant (.int i) j pos) (dC (.int i)) := pd_c pe_int fun _ _ _ => rfl
theorem db {i j} : PD X (bs X CR E W) (.Constant (.bool i) j pos) (dC (.bl i)) := pd_c pe_bl fun _ _ _ => rfl
theorem dn {j} : PD X (bs X CR E W) (.Constant .none j pos) (dC .non) := pd_c pe_non fun _ _ _ => rfl
theorem ds {x j} : PD X (bs X CR E W) (.Constant (.str x) j pos) (dC (.str x)) := pd_c pe_str fun _ _ _ => rfl
/-- a module's constant -/
theorem dg {x : Str} {d : D} {v : V} {u : Value} (hm : X.mg x = some u) (r : RelV v u) (rd : ∀ O H M, Rep O H M d v) (hg : Gl X x := by rfl) (hd : (x == ("__debug__" : Str)) = false := by decide) : PD X (bs X CR E W) (.Name x pos) (dC d) := pd_c (pe_glob hg hm r hd) rd
theorem op_ok {r : D2} : ∀ σ H Q, lE (bs X CR E W) (dOp r wa wb) σ H Q → tOp (l2 X.K CR r) (lE (bs X CR E W) wa) (lE (bs X CR E W) wb) σ H Q := by
  intro σ H Q h
  obtain ⟨P, δ, M, Qd, hS, g, x, w, k⟩ := h
  refine ⟨P, δ, M, _, hS, g, x, w, fun v H1 ⟨d, M1, z1, g1, r1, w1⟩ => ?_⟩
  refine ⟨P, δ, M1, _, hS.mono z1, g1, x.trans z1, w1, fun v2 H2 ⟨d2, M2, z2, g2, r2, w2⟩ => ?_⟩
  exact ⟨P, d, d2, M2, _, r1.mono z2, r2, g2, w2, fun v3 H3 l => k v3 H3 (l.trans (z1.trans z2))⟩
theorem d_op {op : Operator} {r : D2} (ho : OpR X (binaryOp op) (l2 X.K CR r)) (ha : PD X (bs X CR E W) a wa) (hb : PD X (bs X CR E W) b wb) : PD X (bs X CR E W) (.BinOp a op b pos) (dOp r wa wb) := (pe_op ho ha hb).imp op_ok
theorem d_cmp {op : CmpOp} {r : D2} (ho : OpR X (compareOp op) (l2 X.K CR r)) (ha : PD X (bs X CR E W) a wa) (hb : PD X (bs X CR E W) b wb) (hm : behindInMarks op b = false := by first | exact nomark _ | rfl) : PD X (bs X CR E W) (.Compare a [op] [b] pos) (dOp r wa wb) := (pe_cmpR ho ha hb hm).imp op_ok
theorem d_un {op : UnaryOp} {r : D1} (ho : UnR X (unaryOp op) (l1 X.K CR r)) (ha : PD X (bs X CR E W) a wa) : PD X (bs X CR E W) (.UnaryOp op a pos) (dUn r wa) := by
  refine (pe_un ho ha).imp fun σ H Q h => ?_
  obtain ⟨P, δ, M, Qd, hS, g, x, w, k⟩ := h
  exact ⟨P, δ, M, _, hS, g, x, w, fun v H1 ⟨d, M1, z1, g1, r1, w1⟩ => ⟨P, d, M1, _, r1, g1, w1, fun v3 H3 l => k v3 H3 (l.trans z1)⟩⟩
/-- a value that is used as it is by a rule over values -/
theorem thenE {w : DE} {r : D1} {t : V → Hp → VK → Prop} (ht : ∀ x H Q, l1 X.K CR r x H Q → t x H Q) : ∀ σ H Q, lE (bs X CR E W) (dUn r w) σ H Q → lE (bs X CR E W) w σ H (fun x H1 => t x H1 Q) := by
  intro σ H Q h
  obtain ⟨P, δ, M, Qd, hS, g, x, w, k⟩ := h
  exact ⟨P, δ, M, _, hS, g, x, w, fun v H1 ⟨d, M1, z1, g1, r1, w1⟩ => ht _ _ _ ⟨P, d, M1, _, r1, g1, w1, fun v3 H3 l => k v3 H3 (l.trans z1)⟩⟩
/-! ### argument lists -/
theorem da_nil : PDA X (bs X CR E W) [] dNil := by
  refine pa_nil.imp fun σ H Q h => ?_
  obtain ⟨P, δ, M, Qd, hS, g, x, w, k⟩ := h
  exact k [] H [] M Fz.refl g rfl w
theorem da_cons {e : Expr} {es : List Expr} {w : DE} {t : DA} (ha : PD X (bs X CR E W) e w) (hr : PDA X (bs X CR E W) es t) (hs : starEach (e :: es) X.env = (false, eval e X.env) :: starEach es X.env := by rfl) : PDA X (bs X CR E W) (e :: es) (dCons w t) := by
  refine (pa_cons ha hr hs).imp fun σ H Q h => ?_
  obtain ⟨P, δ, M, Qd, hS, g, x, w, k⟩ := h
  refine ⟨P, δ, M, _, hS, g, x, w, fun v H1 ⟨d, M1, z1, g1, r1, w1⟩ => ⟨P, δ, M1, _, hS.mono z1, g1, x.trans z1, w1, fun vs H2 ds M2 z2 g2 rs w2 => ?_⟩⟩
  exact k (v :: vs) H2 (d :: ds) M2 (z1.trans z2) g2 ⟨v, vs, rfl, r1.mono z2, rs⟩ w2
theorem cb_ok {r : DC} {t : DA} : ∀ σ H Q, lE (bs X CR E W) (dCB r t) σ H Q → tCB (lC X.K CR r) (lA (bs X CR E W) t) σ H Q := by
  intro σ H Q h
  obtain ⟨P, δ, M, Qd, hS, g, x, w, k⟩ := h
  exact ⟨P, δ, M, _, hS, g, x, w, fun vs H1 ds M1 z1 g1 rs w1 => ⟨P, ds, M1, _, rs, g1, w1, fun v3 H3 l => k v3 H3 (l.trans z1)⟩⟩
/-- f(e, ..), f a built-in function, a built-in type, a module's name for a built-in -/
theorem d_B {x : Str} {e : Expr} {es : List Expr} {id : String} {r : DC} {t : DA} {p : Pos} (hc : CallR X (.builtin id) (lC X.K CR r)) (hm : X.mg x = none) (ha : PDA X (bs X CR E W) (e :: es) t) (hv : bootBuiltins x = some (.builtin id) := by decide +kernel) (hg : Gl X x := by rfl) (hn : x ≠ "__name__" := by decide) (hdb : (x == ("__debug__" : Str)) = false := by decide)
    (he : starEach (e :: es) X.env = (false, eval e X.env) :: starEach es X.env := by rfl) (hpl : (backTo pos (starEach es X.env)).any (·.1) = false := by rfl) : PD X (bs X CR E W) (.Call (.Name x p) (e :: es) [] pos) (dCB r t) := (pe_callB hc hg hm hv ha hn hdb he hpl).imp cb_ok
theorem d_Ty {x : Str} {e : Expr} {es : List Expr} {T : String} {r : DC} {t : DA} {p : Pos} (hc : CallR X (.type T) (lC X.K CR r)) (hm : X.mg x = none) (ha : PDA X (bs X CR E W) (e :: es) t) (hv : bootBuiltins x = some (.type T) := by decide +kernel) (hg : Gl X x := by rfl) (hn : x ≠ "__name__" := by decide) (hdb : (x == ("__debug__" : Str)) = false := by decide)
    (he : starEach (e :: es) X.env = (false, eval e X.env) :: starEach es X.env := by rfl) (hpl : (backTo pos (starEach es X.env)).any (·.1) = false := by rfl) : PD X (bs X CR E W) (.Call (.Name x p) (e :: es) [] pos) (dCB r t) := (pe_callTy hc hg hm hv ha hn hdb he hpl).imp cb_ok
/-! ### displays -/
def rTup : DC := fun ds M Q => ds.length ≤ sizeLine ∧ Q (.tup ds) M
def rLstV : DC := fun ds M Q => ds.length ≤ sizeLine ∧ Q (.lst ds) M
def rLstR : DC := fun ds M Q => ds.length ≤ sizeLine ∧ ∀ p, M p = none → Q (.ref p) (mput M p (.lst ds))
theorem dispE {t : DA} {r : DC} {f : List V → HO} (hr : ∀ P ds vs H M Qd, Reps ⟨X.K, CR, P⟩ H M ds vs → Good ⟨X.K, CR, P⟩ H M → r ds M Qd → vs.length ≤ sizeLine ∧ ∀ p, H p = none → LfV ⟨X.K, CR, P⟩ H M Qd (.ref p) (upd H p (f vs))) :
    ∀ σ H Q, lE (bs X CR E W) (dCB r t) σ H Q → lA (bs X CR E W) t σ H (fun xs H1 => xs.length ≤ sizeLine ∧ ∀ p, H1 p = none → Q (.ref p) (upd H1 p (f xs))) := by
  intro σ H Q h
  obtain ⟨P, δ, M, Qd, hS, g, x, w, k⟩ := h
  refine ⟨P, δ, M, _, hS, g, x, w, fun vs H1 ds M1 z1 g1 rs w1 => ?_⟩
  obtain ⟨h1, h2⟩ := hr P ds vs H1 M1 Qd rs g1 w1
  exact ⟨h1, fun p hp => k _ _ ((h2 p hp).trans z1)⟩
theorem newT {O : Own} {H M} {ds : List D} {vs : List V} {p : Addr} {o : Obj} {Q : DK} (g : Good O H M) (hp : H p = none) (t : TupO o) (rs : Reps O H M ds vs) (q : Q (.tup ds) M) : LfV O H M Q (.ref p) (upd H p (.frz o (.tup vs))) :=
  ⟨.tup ds, M, fz_new g hp, good_new g hp, ⟨p, vs, rfl, ⟨g.none hp, o, t, upd_same⟩, rs.mono (fz_new g hp)⟩, q⟩
/-- (..): a new tuple, known to the last -/
def tTupZ (ta : TA) : TE := fun σ H Q => ta σ H fun xs H1 => xs.length ≤ sizeLine ∧ ∀ p o, H1 p = none → TupO o → Q (.ref p) (upd H1 p (.frz o (.tup xs)))
theorem pe_tupZ {es : List Expr} {t : TA} {x1} (h : PA X es t) : PE X (.Tuple es x1 pos) (tTupZ t) := by
  refine ⟨fun pins s σ H Q I hq => ?_⟩
  refine wpAny_Tuple_spliced (thn (h.run pos pins s σ H _ I hq) fun us s1 ⟨xs, H1, I1, r, z, q⟩ => ⟨by rw [← r.length]; exact z, ?_⟩)
  have hf : H1 s1.heap.objs.size = none := I1.hok.fresh (Nat.le_refl _)
  refine ⟨.ref s1.heap.objs.size, _, I1.laid (t' := s1.toks) (fun b u e => Heap.get?_push_of_some _ e) (Nat.le_refl _) ?_, rfl, q _ _ hf (show TupO { cls := .type "tuple", data := .seq us.toArray } from rfl)⟩
  exact ⟨Heap.get?_push_size _ rfl, z, us, r, ⟨_, Heap.get?_push_size _ rfl, rfl, _, rfl⟩⟩
theorem newL {O : Own} {H M} {ds : List D} {vs : List V} {p : Addr} {Q : DK} (g : Good O H M) (hp : H p = none) (rs : Reps O H M ds vs) (q : Q (.lst ds) M) : LfV O H M Q (.ref p) (upd H p (.lst vs)) :=
  ⟨.lst ds, M, fz_new g hp, good_new g hp, ⟨p, vs, rfl, ⟨g.none hp, upd_same⟩, rs.mono (fz_new g hp)⟩, q⟩
theorem newR {O : Own} {H M} {ds : List D} {vs : List V} {p : Addr} {Q : DK} (g : Good O H M) (hp : H p = none) (rs : Reps O H M ds vs) (q : Q (.ref p) (mput M p (.lst ds))) : LfV O H M Q (.ref p) (upd H p (.lst vs)) :=
  ⟨.ref p, _, fz_newM g hp, good_put g (g.none hp).2 (fz_newM g hp) (show RepO O _ _ p (.lst ds) from ⟨vs, upd_same, rs.mono (fz_newM g hp)⟩), rfl, q⟩
theorem d_tup {es : List Expr} {t : DA} {x1} (h : PDA X (bs X CR E W) es t) : PD X (bs X CR E W) (.Tuple es x1 pos) (dCB rTup t) := (pe_tupZ h).imp fun σ H Q h => (by
  obtain ⟨P, δ, M, Qd, hS, g, x, w, k⟩ := h
  exact ⟨P, δ, M, _, hS, g, x, w, fun vs H1 ds M1 z1 g1 rs w1 => ⟨by rw [← rs.length]; exact w1.1, fun p o hp t => k _ _ ((newT g1 hp t rs w1.2).trans z1)⟩⟩)
theorem d_lst {es : List Expr} {t : DA} (h : PDA X (bs X CR E W) es t) : PD X (bs X CR E W) (.List es pos) (dCB rLstV t) := (pe_lst h).imp (dispE fun _ _ _ _ _ _ rs g w => ⟨by rw [← rs.length]; exact w.1, fun _ hp => newL g hp rs w.2⟩)
theorem d_lstR {es : List Expr} {t : DA} (h : PDA X (bs X CR E W) es t) : PD X (bs X CR E W) (.List es pos) (dCB rLstR t) := (pe_lst h).imp (dispE fun _ _ _ _ _ _ rs g w => ⟨by rw [← rs.length]; exact w.1, fun p hp => newR g hp rs (w.2 p (g.none hp).1)⟩)
/-! ### tests -/
def dTst (w : DE) : DT := fun δ M Q => w δ M fun d M1 => ∃ b, d = .bl b ∧ Q b M1
theorem tstE {w : DE} : ∀ σ H (Q : Bool → Hp → Prop), lT (bs X CR E W) (dTst w) σ H Q → lE (bs X CR E W) w σ H (fun x H1 => ∃ k, x = .bl k ∧ Q k H1) := by
  intro σ H Q h
  obtain ⟨P, δ, M, Qd, hS, g, x, w, k⟩ := h
  refine ⟨P, δ, M, _, hS, g, x, w, fun v H1 ⟨d, M1, z1, g1, r1, b, e, q⟩ => ?_⟩
  subst e
  exact ⟨b, r1, k b H1 M1 z1 g1 q⟩
theorem t_cmp {op : CmpOp} {r : D2} (ho : OpR X (compareOp op) (l2 X.K CR r)) (ha : PD X (bs X CR E W) a wa) (hb : PD X (bs X CR E W) b wb) (hm : behindInMarks op b = false := by first | exact nomark _ | rfl) : PDT X (bs X CR E W) (.Compare a [op] [b] pos) (dTst (dOp r wa wb)) :=
  (pt_cmpR ho ha hb hm).imp fun σ H Q h => op_ok σ H _ (by
    obtain ⟨P, δ, M, Qd, hS, g, x, w, k⟩ := h
    refine ⟨P, δ, M, _, hS, g, x, w, fun v H1 ⟨d, M1, z1, g1, r1, b, e, q⟩ => ?_⟩
    subst e
    exact ⟨b, r1, k b H1 M1 z1 g1 q⟩)
/-- a value that is True or False, as a test -/
theorem t_val {e : Expr} {w : DE} (h : PD X (bs X CR E W) e w) (he : ∀ whole, isTrue e X.env whole = (do let v ← whole; standAt e.pos; holding [v] (truthy v)) := by intro _; rfl) : PDT X (bs X CR E W) e (dTst w) := (pt_val h he).imp tstE
/-- any value as a test -/
def TruD : D → Mem → Bool → Prop
  | .non, _, k => k = false
  | .bl b, _, k => k = b
  | .int i, _, k => k = (i != 0)
  | .str y, _, k => y.length ≤ sizeLine ∧ k = ((y.length : Int) != 0)
  | .tup xs, _, k => k = !xs.isEmpty
  | .lst xs, _, k => k = !xs.isEmpty
  | .scr xs, _, k => k = !xs.isEmpty
  | .ref p, M, k => ∃ xs, M p = some (.lst xs) ∧ k = !xs.isEmpty
  | _, _, _ => False
def dTru (w : DE) : DT := fun δ M Q => w δ M fun d M1 => ∃ b, TruD d M1 b ∧ Q b M1
theorem Reps.isEmpty {O H M} {ds : List D} {vs : List V} (h : Reps O H M ds vs) : ds.isEmpty = vs.isEmpty := by
  have e := h.length
  cases ds <;> cases vs <;> simp_all
theorem truD_ok {O : Own} {H M} {d : D} {v : V} {k : Bool} (g : Good O H M) (r : Rep O H M d v) (t : TruD d M k) : TruV O.K v H k := by
  cases d with
  | non => rw [show v = .non from r]; exact t
  | bl b => rw [show v = .bl b from r]; exact t
  | int i => rw [show v = .int i from r]; exact t
  | str x => rw [show v = .str x from r]; exact t
  | tup xs =>
    obtain ⟨a, vs, rfl, f, rs⟩ := r
    exact .inr (.inl ⟨vs, f.sq, by rw [← rs.isEmpty]; exact t⟩)
  | lst xs =>
    obtain ⟨a, vs, rfl, f, rs⟩ := r
    exact .inl ⟨vs, f.sq, by rw [← rs.isEmpty]; exact t⟩
  | scr xs =>
    obtain ⟨a, vs, rfl, f, rs⟩ := r
    exact .inl ⟨vs, f.sq, by rw [← rs.isEmpty]; exact t⟩
  | ref p =>
    rw [show v = .ref p from r]
    obtain ⟨xs, e, t⟩ := t
    obtain ⟨vs, e1, rs⟩ := g.at_ p _ e
    exact .inl ⟨vs, .of e1, by rw [← rs.isEmpty]; exact t⟩
  | _ => exact t.elim
theorem t_tru {e : Expr} {w : DE} (h : PD X (bs X CR E W) e w) (he : ∀ whole, isTrue e X.env whole = (do let v ← whole; standAt e.pos; holding [v] (truthy v)) := by intro _; rfl) : PDT X (bs X CR E W) e (dTru w) := by
  refine (pt_truth h he).imp fun σ H Q h => ?_
  obtain ⟨P, δ, M, Qd, hS, g, x, w, k⟩ := h
  exact ⟨P, δ, M, _, hS, g, x, w, fun v H1 ⟨d, M1, z1, g1, r1, b, t, q⟩ => ⟨b, truD_ok g1 r1 t, k b H1 M1 z1 g1 q⟩⟩
def dAnd (t u : DT) : DT := fun δ M Q => t δ M fun c M1 => if c = true then u δ M1 Q else Q false M1
def dOr (t u : DT) : DT := fun δ M Q => t δ M fun c M1 => if c = true then Q true M1 else u δ M1 Q
def dNot (t : DT) : DT := fun δ M Q => t δ M fun c M1 => Q (!c) M1
variable {ta tb : DT} {rest : List Expr}
theorem thenT {f : DT → DT} {u : TT → TT} (hu : ∀ P δ M H σ (Q : Bool → Hp → Prop) Qd, RepS ⟨X.K, CR, P⟩ H M δ σ → Good ⟨X.K, CR, P⟩ H M → f ta δ M Qd → (∀ b H' M', Fz ⟨X.K, CR, P⟩ H M H' M' → Good ⟨X.K, CR, P⟩ H' M' → Qd b M' → Q b H') → u (lT (bs X CR E W) ta) σ H Q) :
    ∀ σ H Q, lT (bs X CR E W) (f ta) σ H Q → u (lT (bs X CR E W) ta) σ H Q := fun σ H Q ⟨P, δ, M, Qd, hS, g, x, w, k⟩ => hu P δ M H σ Q Qd hS g w k
theorem w_and1 (ha : PDT X (bs X CR E W) a ta) : PDW X (bs X CR E W) (.BoolOp .And [a] pos) ta := pw_and1 ha
theorem w_or1 (ha : PDT X (bs X CR E W) a ta) : PDW X (bs X CR E W) (.BoolOp .Or [a] pos) ta := pw_or1 ha
theorem w_and (ha : PDT X (bs X CR E W) a ta) (hb : PDW X (bs X CR E W) (.BoolOp .And (b :: rest) pos) tb) : PDW X (bs X CR E W) (.BoolOp .And (a :: b :: rest) pos) (dAnd ta tb) := by
  refine (pw_and ha hb).imp fun σ H Q h => ?_
  obtain ⟨P, δ, M, Qd, hS, g, x, w, k⟩ := h
  refine ⟨P, δ, M, _, hS, g, x, w, fun c H1 M1 z1 g1 q => ?_⟩
  cases c with
  | true => exact ⟨P, δ, M1, Qd, hS.mono z1, g1, x.trans z1, q, fun b H' M' z' g' q' => k b H' M' (z1.trans z') g' q'⟩
  | false => exact k false H1 M1 z1 g1 q
theorem w_or (ha : PDT X (bs X CR E W) a ta) (hb : PDW X (bs X CR E W) (.BoolOp .Or (b :: rest) pos) tb) : PDW X (bs X CR E W) (.BoolOp .Or (a :: b :: rest) pos) (dOr ta tb) := by
  refine (pw_or ha hb).imp fun σ H Q h => ?_
  obtain ⟨P, δ, M, Qd, hS, g, x, w, k⟩ := h
  refine ⟨P, δ, M, _, hS, g, x, w, fun c H1 M1 z1 g1 q => ?_⟩
  cases c with
  | false => exact ⟨P, δ, M1, Qd, hS.mono z1, g1, x.trans z1, q, fun b H' M' z' g' q' => k b H' M' (z1.trans z') g' q'⟩
  | true => exact k true H1 M1 z1 g1 q
theorem t_bool {e : Expr} {t : DT} (h : PDW X (bs X CR E W) e t) : PDT X (bs X CR E W) e t := h.pt
theorem t_not (ha : PDT X (bs X CR E W) a ta) : PDT X (bs X CR E W) (.UnaryOp .Not a pos) (dNot ta) := by
  refine (pt_not ha).imp fun σ H Q h => ?_
  obtain ⟨P, δ, M, Qd, hS, g, x, w, k⟩ := h
  exact ⟨P, δ, M, _, hS, g, x, w, fun c H1 M1 z1 g1 q => k (!c) H1 M1 z1 g1 q⟩
/-- and, or, not as values (True or False) -/
def dAndV (a b : DE) : DE := fun δ M Q => a δ M fun x M1 => ∃ c, x = .bl c ∧ if c = true then b δ M1 Q else Q (.bl false) M1
def dOrV (a b : DE) : DE := fun δ M Q => a δ M fun x M1 => ∃ c, x = .bl c ∧ if c = true then Q (.bl true) M1 else b δ M1 Q
def dNotV (a : DE) : DE := fun δ M Q => a δ M fun x M1 => ∃ c, x = .bl c ∧ Q (.bl (!c)) M1
theorem v_one {op} {w : DE} (h : PD X (bs X CR E W) a w) : PD X (bs X CR E W) (.BoolOp op [a] pos) w := pe_one h
theorem v_and (ha : PD X (bs X CR E W) a wa) (hb : PD X (bs X CR E W) (.BoolOp .And (b :: rest) pos) wb) : PD X (bs X CR E W) (.BoolOp .And (a :: b :: rest) pos) (dAndV wa wb) := by
  refine (pe_and ha hb).imp fun σ H Q h => ?_
  obtain ⟨P, δ, M, Qd, hS, g, x, w, k⟩ := h
  refine ⟨P, δ, M, _, hS, g, x, w, fun v H1 ⟨d, M1, z1, g1, r1, c, e, q⟩ => ?_⟩
  subst e
  refine ⟨c, r1, ?_⟩
  cases c with
  | true => exact ⟨P, δ, M1, Qd, hS.mono z1, g1, x.trans z1, q, fun v3 H3 l => k v3 H3 (l.trans z1)⟩
  | false => exact k _ H1 ((LfV.here (d := .bl _) g1 rfl q).trans z1)
theorem v_or (ha : PD X (bs X CR E W) a wa) (hb : PD X (bs X CR E W) (.BoolOp .Or (b :: rest) pos) wb) : PD X (bs X CR E W) (.BoolOp .Or (a :: b :: rest) pos) (dOrV wa wb) := by
  refine (pe_or ha hb).imp fun σ H Q h => ?_
  obtain ⟨P, δ, M, Qd, hS, g, x, w, k⟩ := h
  refine ⟨P, δ, M, _, hS, g, x, w, fun v H1 ⟨d, M1, z1, g1, r1, c, e, q⟩ => ?_⟩
  subst e
  refine ⟨c, r1, ?_⟩
  cases c with
  | false => exact ⟨P, δ, M1, Qd, hS.mono z1, g1, x.trans z1, q, fun v3 H3 l => k v3 H3 (l.trans z1)⟩
  | true => exact k _ H1 ((LfV.here (d := .bl _) g1 rfl q).trans z1)
theorem v_not (ha : PD X (bs X CR E W) a wa) : PD X (bs X CR E W) (.UnaryOp .Not a pos) (dNotV wa) := by
  refine (pe_not ha).imp fun σ H Q h => ?_
  obtain ⟨P, δ, M, Qd, hS, g, x, w, k⟩ := h
  refine ⟨P, δ, M, _, hS, g, x, w, fun v H1 ⟨d, M1, z1, g1, r1, c, e, q⟩ => ?_⟩
  subst e
  exact ⟨c, r1, k _ H1 ((LfV.here (d := .bl _) g1 rfl q).trans z1)⟩
def dIfE (t : DT) (a b : DE) : DE := fun δ M Q => t δ M fun c M1 => if c = true then a δ M1 Q else b δ M1 Q
theorem d_ifE {c : Expr} (hc : PDT X (bs X CR E W) c ta) (ha : PD X (bs X CR E W) a wa) (hb : PD X (bs X CR E W) b wb) : PD X (bs X CR E W) (.IfExp c a b pos) (dIfE ta wa wb) := by
  refine (pe_ifExp hc ha hb).imp fun σ H Q h => ?_
  obtain ⟨P, δ, M, Qd, hS, g, x, w, k⟩ := h
  refine ⟨P, δ, M, _, hS, g, x, w, fun c H1 M1 z1 g1 q => ?_⟩
  cases c with
  | true => exact ⟨P, δ, M1, Qd, hS.mono z1, g1, x.trans z1, q, fun v3 H3 l => k v3 H3 (l.trans z1)⟩
  | false => exact ⟨P, δ, M1, Qd, hS.mono z1, g1, x.trans z1, q, fun v3 H3 l => k v3 H3 (l.trans z1)⟩
/-- a op b op c -/
def dChain (r r' : D2) (a b c : DE) : DE := fun δ M Q => a δ M fun x M1 => b δ M1 fun y M2 => r x y M2 fun z M3 => ∃ k, z = .bl k ∧ (if k = true then c δ M3 fun u M4 => r' y u M4 Q else Q (.bl false) M3)
theorem chain_ok {r r' : D2} : ∀ σ H Q, lE (bs X CR E W) (dChain r r' wa wb wc) σ H Q → tChain (l2 X.K CR r) (l2 X.K CR r') (lE (bs X CR E W) wa) (lE (bs X CR E W) wb) (lE (bs X CR E W) wc) σ H Q := by
  intro σ H Q h
  obtain ⟨P, δ, M, Qd, hS, g, x, w, k⟩ := h
  refine ⟨P, δ, M, _, hS, g, x, w, fun v H1 ⟨d, M1, z1, g1, r1, w1⟩ => ?_⟩
  refine ⟨P, δ, M1, _, hS.mono z1, g1, x.trans z1, w1, fun v2 H2 ⟨d2, M2, z2, g2, r2, w2⟩ => ?_⟩
  refine ⟨P, d, d2, M2, _, r1.mono z2, r2, g2, w2, fun v3 H3 ⟨d3, M3, z3, g3, r3, b, e, q⟩ => ?_⟩
  subst e
  refine ⟨b, r3, ?_⟩
  cases b with
  | false => exact k _ H3 ((LfV.here (d := .bl _) g3 rfl q).trans ((z1.trans z2).trans z3))
  | true =>
    exact ⟨P, δ, M3, _, ((hS.mono z1).mono z2).mono z3, g3, x.trans ((z1.trans z2).trans z3), q, fun v4 H4 ⟨d4, M4, z4, g4, r4, w4⟩ => ⟨P, d2, d4, M4, _, (r2.mono z3).mono z4, r4, g4, w4, fun v5 H5 l => k v5 H5 (l.trans (((z1.trans z2).trans z3).trans z4))⟩⟩
theorem d_chain {op op' : CmpOp} {r r' : D2} (ho : OpR X (compareOp op) (l2 X.K CR r)) (ho' : OpR X (compareOp op') (l2 X.K CR r')) (ha : PD X (bs X CR E W) a wa) (hb : PD X (bs X CR E W) b wb) (hc : PD X (bs X CR E W) c wc)
    (hm : lastMarks [op, op'] [b, c] = false := by with_unfolding_all rfl) : PD X (bs X CR E W) (.Compare a [op, op'] [b, c] pos) (dChain r r' wa wb wc) := (pe_chain ho ho' ha hb hc hm).imp chain_ok
theorem t_chain {op op' : CmpOp} {r r' : D2} (ho : OpR X (compareOp op) (l2 X.K CR r)) (ho' : OpR X (compareOp op') (l2 X.K CR r')) (ha : PD X (bs X CR E W) a wa) (hb : PD X (bs X CR E W) b wb) (hc : PD X (bs X CR E W) c wc)
    (hm : lastMarks [op, op'] [b, c] = false := by with_unfolding_all rfl) : PDT X (bs X CR E W) (.Compare a [op, op'] [b, c] pos) (dTst (dChain r r' wa wb wc)) :=
  (pt_chain ho ho' ha hb hc hm).imp fun σ H Q h => chain_ok σ H _ (by
    obtain ⟨P, δ, M, Qd, hS, g, x, w, k⟩ := h
    refine ⟨P, δ, M, _, hS, g, x, w, fun v H1 ⟨d, M1, z1, g1, r1, b, e, q⟩ => ?_⟩
    subst e
    exact ⟨b, r1, k b H1 M1 z1 g1 q⟩)
end
/-! ### statements -/
def dNext : DSt := fun D δ M => D.nx δ M
def dSeq (t u : DSt) : DSt := fun D δ M => t { D with nx := u D } δ M
def dSet (i : Nat) (w : DE) : DSt := fun D δ M => w δ M fun d M1 => D.nx (δ.set i (some d)) M1
def dAsg (w : DE) (g : DG) : DSt := fun D δ M => w δ M fun d M1 => g d δ M1 D.nx
def dDrop (w : DE) : DSt := fun D δ M => w δ M fun _ M1 => D.nx δ M1
def dRet (w : DE) : DSt := fun D δ M => w δ M D.rt
def dRetN : DSt := fun D _ M => D.rt .non M
def dIf (c : DT) (t u : DSt) : DSt := fun D δ M => c δ M fun b M1 => if b = true then t D δ M1 else u D δ M1
def dBreak : DSt := fun D δ M => D.bk δ M
def dCont : DSt := fun D δ M => D.ct δ M
/-- what is told of d may be told of what it is when it is let go -/
def FrzQ (Q : DK) : DK := fun d M => (∃ p ds, d = .ref p ∧ M p = some (.lst ds) ∧ Q (.lst ds) (mdel M p)) ∨ (∃ p C ns ds, d = .ref p ∧ M p = some (.ins C ns ds) ∧ Q (.obj C ns ds) (mdel M p))
/-- return of a list that is let go -/
def dRetF (w : DE) : DSt := fun D δ M => w δ M (FrzQ D.rt)
theorem FrzQ.ok {O : Own} {H M Q v} (h : LfV O H M (FrzQ Q) v H') : LfV O H M Q v H' := by
  obtain ⟨d, M', z, g, r, q⟩ := h
  rcases q with ⟨p, ds, rfl, e, q⟩ | ⟨p, C, ns, ds, rfl, e, q⟩
  · rw [show v = .ref p from r]
    exact ⟨_, _, z.trans fz_del, good_del g, rep_frz g e, q⟩
  · rw [show v = .ref p from r]
    exact ⟨_, _, z.trans fz_del, good_del g, rep_frzO g e, q⟩
section
variable {X : Cx} {CR : Addr} {E : DXS} {W : WX} {e : Expr} {w : DE} {pos : Pos} {st : Stmt} {rest : List Stmt} {t u : DSt}
theorem s_nil : PDSs X (bs X CR E W) [] dNext := pss_nil.imp fun Dn σ H ⟨P, δ, M, Dd, hS, g, x, w, k⟩ => k.nx σ H ⟨δ, M, Fz.refl, g, hS, w⟩
theorem s_pass : PDS X (bs X CR E W) (.Pass pos) dNext := ps_pass.imp fun Dn σ H ⟨P, δ, M, Dd, hS, g, x, w, k⟩ => k.nx σ H ⟨δ, M, Fz.refl, g, hS, w⟩
theorem s_break : PDS X (bs X CR E W) (.Break pos) dBreak := ps_break.imp fun Dn σ H ⟨P, δ, M, Dd, hS, g, x, w, k⟩ => k.bk σ H ⟨δ, M, Fz.refl, g, hS, w⟩
theorem s_cont : PDS X (bs X CR E W) (.Continue pos) dCont := ps_continue.imp fun Dn σ H ⟨P, δ, M, Dd, hS, g, x, w, k⟩ => k.ct σ H ⟨δ, M, Fz.refl, g, hS, w⟩
theorem s_doc {x j pos pos'} : PDS X (bs X CR E W) (.Expr (.Constant (.str x) j pos) pos') dNext := ps_doc.imp fun Dn σ H ⟨P, δ, M, Dd, hS, g, x, w, k⟩ => k.nx σ H ⟨δ, M, Fz.refl, g, hS, w⟩
theorem s_cons (h1 : PDS X (bs X CR E W) st t) (h2 : PDSs X (bs X CR E W) rest u) : PDSs X (bs X CR E W) (st :: rest) (dSeq t u) := by
  refine (pss_cons h1 h2).imp fun Dn σ H h => ?_
  obtain ⟨P, δ, M, Dd, hS, g, x, w, k⟩ := h
  exact ⟨P, δ, M, _, hS, g, x, w, ⟨fun σ' H' ⟨δ', M', z, g', r', q⟩ => ⟨P, δ', M', Dd, r', g', x.trans z, q, k.trans z⟩, k.rt, k.bk, k.ct⟩⟩
theorem s_one (h1 : PDS X (bs X CR E W) st t) : PDSs X (bs X CR E W) [st] t := pss_one h1
theorem s_set {i : Nat} {x : Str} {pos' : Pos} (hN : X.N.Nodup) (he : PD X (bs X CR E W) e w) (hi : X.N[i]? = some x := by rfl) (hx : Loc X.env.scope x := by first | exact .inl rfl | exact .inr rfl) (hs : swapsWith e (some (.Name x pos')) pos.line X.env = pure false := by rfl) (hf : X.fn x = true ∨ X.env.scope.names.lookup x = some .local := by first | exact .inl rfl | exact .inr rfl | assumption) :
    PDS X (bs X CR E W) (.Assign [.Name x pos'] e pos) (dSet i w) := by
  refine (ps_set hN hi hx he hs hf).imp fun Dn σ H h => ?_
  obtain ⟨P, δ, M, Dd, hS, g, x, w, k⟩ := h
  exact ⟨P, δ, M, _, hS, g, x, w, fun v H1 ⟨d, M1, z1, g1, r1, q⟩ => k.nx _ H1 ⟨_, M1, z1, g1, (hS.mono z1).set r1, q⟩⟩
theorem s_asg {tg : Expr} {gd : DG} (he : PD X (bs X CR E W) e w) (hg : PDG X (bs X CR E W) tg gd) (hs : swapsWithSole [tg] e pos.line X.env = pure false := by rfl) (hw : swappedStores [tg] e X.env = pure none := by rfl)
    (h1 : (assignEach [tg] X.env).map (·.2) = [assign tg X.env] := by rfl) : PDS X (bs X CR E W) (.Assign [tg] e pos) (dAsg w gd) := by
  refine (ps_asg he hg hs hw h1).imp fun Dn σ H h => ?_
  obtain ⟨P, δ, M, Dd, hS, g, x, w, k⟩ := h
  exact ⟨P, δ, M, _, hS, g, x, w, fun v H1 ⟨d, M1, z1, g1, r1, q⟩ => ⟨P, d, δ, M1, _, r1, hS.mono z1, g1, x.trans z1, q, fun σ' H' l => k.nx σ' H' (l.trans z1)⟩⟩
theorem s_expr (he : PD X (bs X CR E W) e w) (hs : swapsWith e none pos.line X.env = pure false := by rfl) : PDS X (bs X CR E W) (.Expr e pos) (dDrop w) := by
  refine (ps_expr he hs).imp fun Dn σ H h => ?_
  obtain ⟨P, δ, M, Dd, hS, g, x, w, k⟩ := h
  exact ⟨P, δ, M, _, hS, g, x, w, fun v H1 ⟨d, M1, z1, g1, r1, q⟩ => k.nx _ H1 ⟨δ, M1, z1, g1, hS.mono z1, q⟩⟩
theorem s_ret (he : PD X (bs X CR E W) e w) : PDS X (bs X CR E W) (.Return (some e) pos) (dRet w) := by
  refine (ps_ret he).imp fun Dn σ H h => ?_
  obtain ⟨P, δ, M, Dd, hS, g, x, w, k⟩ := h
  exact ⟨P, δ, M, _, hS, g, x, w, k.rt⟩
theorem s_retF (he : PD X (bs X CR E W) e w) : PDS X (bs X CR E W) (.Return (some e) pos) (dRetF w) := by
  refine (ps_ret he).imp fun Dn σ H h => ?_
  obtain ⟨P, δ, M, Dd, hS, g, x, w, k⟩ := h
  exact ⟨P, δ, M, _, hS, g, x, w, fun v H' l => k.rt v H' (FrzQ.ok l)⟩
theorem s_retN : PDS X (bs X CR E W) (.Return none pos) dRetN := ps_retN.imp fun Dn σ H ⟨P, δ, M, Dd, hS, g, x, w, k⟩ => k.rt .non H ⟨.non, M, Fz.refl, g, rfl, w⟩
theorem s_if {c : Expr} {a b : List Stmt} {tc : DT} (hc : PDT X (bs X CR E W) c tc) (ha : PDSs X (bs X CR E W) a t) (hb : PDSs X (bs X CR E W) b u) : PDS X (bs X CR E W) (.If c a b pos) (dIf tc t u) := by
  refine (ps_if hc ha hb).imp fun Dn σ H h => ?_
  obtain ⟨P, δ, M, Dd, hS, g, x, w, k⟩ := h
  refine ⟨P, δ, M, _, hS, g, x, w, fun c H1 M1 z1 g1 q => ?_⟩
  cases c with
  | true => exact ⟨P, δ, M1, Dd, hS.mono z1, g1, x.trans z1, q, k.trans z1⟩
  | false => exact ⟨P, δ, M1, Dd, hS.mono z1, g1, x.trans z1, q, k.trans z1⟩
/-! ### targets -/
def gNm (i : Nat) : DG := fun d δ M Q => Q (δ.set i (some d)) M
theorem g_nm {i : Nat} {x : Str} (hN : X.N.Nodup) (hi : X.N[i]? = some x := by rfl) (hx : Loc X.env.scope x := by first | exact .inl rfl | exact .inr rfl) (hf : X.fn x = true ∨ X.env.scope.names.lookup x = some .local := by first | exact .inl rfl | exact .inr rfl | assumption) : PDG X (bs X CR E W) (.Name x pos) (gNm i) := by
  refine (pg_name hN hi hx hf).imp fun v σ H Q h => ?_
  obtain ⟨P, d, δ, M, Qd, r, hS, g, x, q, k⟩ := h
  exact k _ H ⟨_, M, Fz.refl, g, hS.set r, q⟩
/-- several targets: a tuple's, a list's items -/
abbrev DGs := List D → DS0 → Mem → (DS0 → Mem → Prop) → Prop
def lGs (B : Bs) (w : DGs) : TGs := fun vs σ H Q => ∃ P ds δ M Qd, Reps ⟨B.K, B.CR, P⟩ H M ds vs ∧ RepS ⟨B.K, B.CR, P⟩ H M δ σ ∧ Good ⟨B.K, B.CR, P⟩ H M ∧ XL ⟨B.K, B.CR, P⟩ H M B.E B.W ∧ w ds δ M Qd ∧ ∀ σ' H', LfS ⟨B.K, B.CR, P⟩ H M Qd σ' H' → Q σ' H'
def gsNil : DGs := fun ds δ M Q => ds = [] ∧ Q δ M
def gsCons (g : DG) (t : DGs) : DGs := fun ds δ M Q => ∃ d r, ds = d :: r ∧ g d δ M fun δ1 M1 => t r δ1 M1 Q
theorem _root_.L2.PGs.imp {X : Cx} {e : List Expr} {t t' : TGs} (h : PGs X e t) (i : ∀ v σ H Q, t' v σ H Q → t v σ H Q) : PGs X e t' := ⟨fun p s σ H v u Q I r q => h.run p s σ H v u Q I r (i v σ H Q q)⟩
abbrev PDGs (X : Cx) (B : Bs) (es : List Expr) (w : DGs) : Prop := PGs X es (lGs B w)
theorem gs_nil : PDGs X (bs X CR E W) [] gsNil := by
  refine PGs.imp pgs_nil fun vs σ H Q h => ?_
  obtain ⟨P, d, δ, M, Qd, r, hS, g, x, ⟨e, q⟩, k⟩ := h
  subst e
  exact ⟨r, k σ H ⟨δ, M, Fz.refl, g, hS, q⟩⟩
theorem gs_cons {e : Expr} {es : List Expr} {gd : DG} {t : DGs} (h1 : PDG X (bs X CR E W) e gd) (h2 : PDGs X (bs X CR E W) es t)
    (hs : (assignEach (e :: es) X.env).map (·.2) = assign e X.env :: (assignEach es X.env).map (·.2) := by rfl) : PDGs X (bs X CR E W) (e :: es) (gsCons gd t) := by
  refine PGs.imp (pgs_cons h1 h2 hs) fun vs σ H Q h => ?_
  obtain ⟨P, ds, δ, M, Qd, r, hS, g, x, ⟨d, rr, e, q⟩, k⟩ := h
  subst e
  obtain ⟨v, vr, rfl, r1, r2⟩ := r
  exact ⟨v, vr, rfl, P, d, δ, M, _, r1, hS, g, x, q, fun σ' H' ⟨δ', M', z, g', hS', q'⟩ => ⟨P, rr, δ', M', _, r2.mono z, hS', g', x.trans z, q', fun σ2 H2 l => k σ2 H2 (l.trans z)⟩⟩
def tupS : D → Option (List D)
  | .tup xs => some xs
  | .prs xs => some xs
  | _ => none
theorem tupS_at {O : Own} {H M} {d : D} {v : V} {xs : List D} (e : tupS d = some xs) (r : Rep O H M d v) : ∃ a vs, v = .ref a ∧ SqT O.K H a vs ∧ Reps O H M xs vs := by
  cases d with
  | tup ys => cases e; obtain ⟨a, vs, h, f, rs⟩ := r; exact ⟨a, vs, h, f.sq, rs⟩
  | prs ys => cases e; obtain ⟨a, vs, h, f, rs⟩ := r; exact ⟨a, vs, h, f.sq, rs⟩
  | _ => cases e
def gTu (n : Nat) (t : DGs) : DG := fun d δ M Q => ∃ xs, tupS d = some xs ∧ xs.length = n ∧ t xs δ M Q
theorem g_tu {es : List Expr} {k : Nat} {t : DGs} {n : Nat} (hc : X.calm = true) (h : PDGs X (bs X CR E W) es t)
    (hn : (assignEach es X.env).length = n := by rfl) (hst : (assignEach es X.env).findIdx? (·.1) = none := by rfl) : PDG X (bs X CR E W) (.Tuple es k pos) (gTu n t) := by
  refine (pg_tup hc h hn hst).imp fun v σ H Q h => ?_
  obtain ⟨P, d, δ, M, Qd, r, hS, g, x, ⟨xs, e, hl, q⟩, k⟩ := h
  obtain ⟨a, vs, rfl, f, rs⟩ := tupS_at e r
  exact ⟨a, vs, rfl, f, by rw [← rs.length]; exact hl, P, xs, δ, M, Qd, rs, hS, g, x, q, k⟩
/-- o[i] = v of a list of the memory -/
def gSb (wo wi : DE) : DG := fun v δ M Q => wo δ M fun o M1 => wi δ M1 fun i M2 => ∃ p xs k j, o = .ref p ∧ i = .int k ∧ M2 p = some (.lst xs) ∧ ixN xs.length k = some j ∧ Q δ (mput M2 p (.lst (xs.set j v)))
theorem g_sb {o i : Expr} {wo wi : DE} (ho : PD X (bs X CR E W) o wo) (hi : PD X (bs X CR E W) i wi)
    (ha : ∀ v, assign (.Subscript o i pos) X.env v = (do
      let ov ← holding [v] (eval o X.env)
      let iv ← holding [v, ov] (eval i X.env)
      standAt pos
      holding [v, ov, iv] (setItem ov iv v)
      release [v, ov, iv] []) := by intro _; rfl) : PDG X (bs X CR E W) (.Subscript o i pos) (gSb wo wi) := by
  refine (pg_sub ho hi set_list ha).imp fun v σ H Q h => ?_
  obtain ⟨P, d, δ, M, Qd, r, hS, g, x, q, k⟩ := h
  refine ⟨P, δ, M, _, hS, g, x, q, fun vo H1 ⟨o', M1, z1, g1, r1, q1⟩ => ⟨P, δ, M1, _, hS.mono z1, g1, x.trans z1, q1, fun vi H2 ⟨i', M2, z2, g2, r2, p, xs, kk, j, eo, ei, em, ix, q2⟩ => ?_⟩⟩
  subst eo; subst ei
  obtain ⟨vs, e1, rs⟩ := g2.at_ p _ em
  have z3 : Fz ⟨X.K, CR, P⟩ H2 M2 (upd H2 p (.lst (vs.set j v))) (mput M2 p (.lst (xs.set j d))) := fz_put g2 em
  refine ⟨p, vs, kk, j, (show vo = .ref p from r1), r2, e1, by rw [← rs.length]; exact ix, ?_⟩
  have rd := ((r.mono z1).mono z2)
  exact k σ _ ⟨δ, _, (z1.trans z2).trans z3, good_put g2 (g2.noP em) z3 ⟨_, upd_same, (Reps.set rd j rs).mono z3⟩, ((hS.mono z1).mono z2).mono z3, q2⟩
end
open PySem PySem.Spec PyProof.Rows L2 RZ
/-- from one view to another: all that is told by value is told by value there -/
structure Cv (O : Own) (H : Hp) (M : Mem) (O' : Own) (H' : Hp) (M' : Mem) : Prop where
  k : O'.K = O.K
  c : O'.CR = O.CR
  st : ∀ a o, Fre O M a → H a = some o → H' a = some o ∧ Fre O' M' a
theorem rd_cv {O O' H M H' M'} {a : Addr} {u : HO} (z : Cv O H M O' H' M') (m : Fre O M a) (r : Rd H a u) : Fre O' M' a ∧ Rd H' a u := by
  rcases r with r | ⟨o, r⟩
  · exact ⟨(z.st a _ m r).2, .inl (z.st a _ m r).1⟩
  · exact ⟨(z.st a _ m r).2, .inr ⟨o, (z.st a _ m r).1⟩⟩
section
variable {O O' : Own} {H H' : Hp} {M M' : Mem}
mutual
theorem Rep.cv (z : Cv O H M O' H' M') : ∀ {d : D} {v : V}, Rep O H M d v → Rep O' H' M' d v
  | .non, _, h => h
  | .bl _, _, h => h
  | .int _, _, h => h
  | .str _, _, h => h
  | .ref _, _, h => h
  | .ty _, _, h => h
  | .rat q, v, h => by
    obtain ⟨a, dx, e, m, h⟩ := h
    exact ⟨a, dx, e, (z.st a _ m h).2, by rw [z.c]; exact (z.st a _ m h).1⟩
  | .tup xs, v, h => by
    obtain ⟨a, vs, e, ⟨f1, o, t, f2⟩, r⟩ := h
    exact ⟨a, vs, e, ⟨(z.st a _ f1 f2).2, o, t, (z.st a _ f1 f2).1⟩, Reps.cv z r⟩
  | .prs xs, v, h => by
    obtain ⟨a, vs, e, f, r⟩ := h
    exact ⟨a, vs, e, ⟨(z.st a _ f.1 f.2).2, (z.st a _ f.1 f.2).1⟩, Reps.cv z r⟩
  | .lst xs, v, h => by
    obtain ⟨a, vs, e, f, r⟩ := h
    exact ⟨a, vs, e, ⟨(z.st a _ f.1 f.2).2, (z.st a _ f.1 f.2).1⟩, Reps.cv z r⟩
  | .scr xs, v, h => by
    obtain ⟨a, vs, e, f, r⟩ := h
    exact ⟨a, vs, e, f.elim (fun f => .inl (rd_cv z f.1 f.2)) (fun f => .inr (by rw [z.k]; exact f)), Reps.cv z r⟩
  | .obj C ns xs, v, h => by
    obtain ⟨a, dx, vs, e, m, h, l, r⟩ := h
    exact ⟨a, dx, vs, e, (z.st a _ m h).2, (z.st a _ m h).1, l, Reps.cv z r⟩
theorem Reps.cv (z : Cv O H M O' H' M') : ∀ {ds : List D} {vs : List V}, Reps O H M ds vs → Reps O' H' M' ds vs
  | [], _, h => h
  | d :: ds, vs, h => by
    obtain ⟨v, r, e, h1, h2⟩ := h
    exact ⟨v, r, e, Rep.cv z h1, Reps.cv z h2⟩
end
theorem RepO.cv (z : Cv O H M O' H' M') {a : Addr} {o : MO} (h : ∀ u, H a = some u → H' a = some u) (r : RepO O H M a o) : RepO O' H' M' a o := by
  cases o with
  | lst ds => obtain ⟨vs, e, r⟩ := r; exact ⟨vs, h _ e, r.cv z⟩
  | ins C ns ds => obtain ⟨dx, vs, e, l, r⟩ := r; exact ⟨dx, vs, h _ e, l, r.cv z⟩
  | dic ks ds => obtain ⟨vs, e, l, r⟩ := r; exact ⟨vs, h _ e, l, r.cv z⟩
theorem RepS.cv (z : Cv O H M O' H' M') {δ : DS0} {σ : L2.St} (r : RepS O H M δ σ) : RepS O' H' M' δ σ := ⟨r.1, fun i d e => let ⟨v, h, q⟩ := r.2 i d e; ⟨v, h, q.cv z⟩⟩
end
theorem FL.cv {O O' H H' M M'} (z : Cv O H M O' H' M') {a : Addr} {vs : List V} (f : FL O H M a vs) : FL O' H' M' a vs := ⟨(z.st a _ f.1 f.2).2, (z.st a _ f.1 f.2).1⟩
theorem FT.cv {O O' H H' M M'} (z : Cv O H M O' H' M') {a : Addr} {vs : List V} (f : FT O H M a vs) : FT O' H' M' a vs := let ⟨f1, o, t, e⟩ := f; ⟨(z.st a _ f1 e).2, o, t, (z.st a _ f1 e).1⟩
theorem FS.cv {O O' H H' M M'} (z : Cv O H M O' H' M') {a : Addr} {vs : List V} (f : FS O H M a vs) : FS O' H' M' a vs := f.elim (fun f => .inl (rd_cv z f.1 f.2)) (fun f => .inr (by rw [z.k]; exact f))
theorem Fz.cv {O H M H' M'} (z : Fz O H M H' M') : Cv O H M O H' M' := ⟨rfl, rfl, fun a o m e => ⟨(z.st a o m e).1, (z.st a o m e).2, m.2⟩⟩
/-! ### what a loop walks, over data -/
structure WalkD (O : Own) (J : It) (H0 : Hp) (M0 : Mem) (xs : List D) (chk : Mem → Prop) : Prop where
  goes : ∀ i O' H M, i < xs.length → Cv O H0 M0 O' H M → Good O' H M → chk M → J.go i H
  stops : ∀ O' H M, Cv O H0 M0 O' H M → Good O' H M → chk M → J.stop xs.length H
  yields : ∀ i O' H M d v H', xs[i]? = some d → Cv O H0 M0 O' H M → Good O' H M → chk M → J.yld i H v H' → Fz O' H M H' M ∧ Good O' H' M ∧ Rep O' H' M d v
abbrev DI := DS0 → Mem → (List D → (Mem → Prop) → Mem → Prop) → Prop
def lI (B : Bs) (w : DI) : TI := fun σ H R => ∃ P δ M Rd, RepS ⟨B.K, B.CR, P⟩ H M δ σ ∧ Good ⟨B.K, B.CR, P⟩ H M ∧ XL ⟨B.K, B.CR, P⟩ H M B.E B.W ∧ w δ M Rd ∧
  ∀ J H' xs chk M', Fz ⟨B.K, B.CR, P⟩ H M H' M' → Good ⟨B.K, B.CR, P⟩ H' M' → WalkD ⟨B.K, B.CR, P⟩ J H' M' xs chk → Rd xs chk M' → R J H'
abbrev PDI (X : Cx) (B : Bs) (tg it : Expr) (w : DI) : Prop := PI X tg it (lI B w)
theorem _root_.L2.PI.imp {X : Cx} {tg e : Expr} {t t' : TI} (h : PI X tg e t) (i : ∀ σ H R, t' σ H R → t σ H R) : PI X tg e t' := ⟨fun p s σ H R I q => h.run p s σ H R I (i σ H R q)⟩
def always : Mem → Prop := fun _ => True
/-- the items of a thing that is walked as it stands -/
def ItemsD : D → Mem → (List D → (Mem → Prop) → Prop) → Prop
  | .tup xs, _, k => k xs always
  | .lst xs, _, k => k xs always
  | .scr xs, _, k => k xs always
  | .ref p, M, k => ∃ xs, M p = some (.lst xs) ∧ k xs fun M' => M' p = some (.lst xs)
  | .str z, _, k => k (z.cps.toList.map fun c => .str ⟨#[c]⟩) always
  | _, _, _ => False
def dIt (w : DE) : DI := fun δ M R => w δ M fun d M1 => ItemsD d M1 fun xs chk => R xs chk M1
theorem walkD_list {O : Own} {H0 M0} {a : Addr} {vs : List V} {xs : List D} (f : FS O H0 M0 a vs) (r : Reps O H0 M0 xs vs) : WalkD O (Itl O.K a) H0 M0 xs always where
  goes := fun i O' H M hi z g _ => by
    have hl : i < vs.length := by rw [← r.length]; exact hi
    exact ⟨vs, vs[i], (z.k ▸ (f.cv z).sq), List.getElem?_eq_getElem hl⟩
  stops := fun O' H M z g _ => ⟨vs, (z.k ▸ (f.cv z).sq), by rw [r.length]; exact Nat.le_refl _⟩
  yields := fun i O' H M d v H' hd z g _ y => by
    obtain ⟨rfl, y⟩ := y
    have e := y vs (z.k ▸ (f.cv z).sq)
    obtain ⟨d', e1, r1⟩ := (r.cv z).getV e
    rw [hd] at e1; cases e1
    exact ⟨Fz.refl, g, r1⟩
theorem walkD_tup {O : Own} {H0 M0} {a : Addr} {vs : List V} {xs : List D} (f : FT O H0 M0 a vs) (r : Reps O H0 M0 xs vs) : WalkD O (Itt O.K a) H0 M0 xs always where
  goes := fun i O' H M hi z g _ => by
    have hl : i < vs.length := by rw [← r.length]; exact hi
    exact ⟨vs, vs[i], (z.k ▸ (f.cv z).sq), List.getElem?_eq_getElem hl⟩
  stops := fun O' H M z g _ => ⟨vs, (z.k ▸ (f.cv z).sq), by rw [r.length]; exact Nat.le_refl _⟩
  yields := fun i O' H M d v H' hd z g _ y => by
    obtain ⟨rfl, y⟩ := y
    have e := y vs (z.k ▸ (f.cv z).sq)
    obtain ⟨d', e1, r1⟩ := (r.cv z).getV e
    rw [hd] at e1; cases e1
    exact ⟨Fz.refl, g, r1⟩
theorem walkD_ref {O : Own} {H0 M0} {p : Addr} {xs : List D} : WalkD O (Itl O.K p) H0 M0 xs (fun M' => M' p = some (.lst xs)) where
  goes := fun i O' H M hi z g c => by
    obtain ⟨vs, e, r⟩ := g.at_ p _ c
    have hl : i < vs.length := by rw [← r.length]; exact hi
    exact ⟨vs, vs[i], .of e, List.getElem?_eq_getElem hl⟩
  stops := fun O' H M z g c => by
    obtain ⟨vs, e, r⟩ := g.at_ p _ c
    exact ⟨vs, .of e, by rw [r.length]; exact Nat.le_refl _⟩
  yields := fun i O' H M d v H' hd z g c y => by
    obtain ⟨rfl, y⟩ := y
    obtain ⟨vs, e, r⟩ := g.at_ p _ c
    obtain ⟨d', e1, r1⟩ := r.getV (y vs (.of e))
    rw [hd] at e1; cases e1
    exact ⟨Fz.refl, g, r1⟩
theorem walkD_str {O : Own} {H0 M0} {z : Str} : WalkD O (Its z) H0 M0 (z.cps.toList.map fun c => D.str ⟨#[c]⟩) always where
  goes := fun i O' H M hi _ g _ => by
    show i < z.cps.size
    simpa using hi
  stops := fun O' H M _ g _ => by simp [Its]
  yields := fun i O' H M d v H' hd _ g _ y => by
    obtain ⟨rfl, c, hc, rfl⟩ := y
    have e : (z.cps.toList.map fun c => D.str ⟨#[c]⟩)[i]? = some (.str ⟨#[c]⟩) := by
      rw [List.getElem?_map, Array.getElem?_toList, hc] <;> rfl
    rw [e] at hd; cases hd
    exact ⟨Fz.refl, g, rfl⟩
theorem walkD_range {O : Own} {H0 M0} {lo : Int} {n : Nat} : WalkD O (Itr lo n) H0 M0 ((List.range n).map fun (i : Nat) => D.int (lo + (i : Int))) always where
  goes := fun i O' H M hi _ g _ => by
    show i < n
    simpa using hi
  stops := fun O' H M _ g _ => by simp [Itr]
  yields := fun i O' H M d v H' hd _ g _ y => by
    obtain ⟨rfl, rfl⟩ := y
    have hi : i < n := by
      have := (List.getElem?_eq_some_iff.mp hd).1
      simpa using this
    rw [List.getElem?_map, List.getElem?_range hi] at hd
    cases hd
    exact ⟨Fz.refl, g, rfl⟩
def pairsD : List D → List D → List D
  | x :: xs, y :: ys => .prs [x, y] :: pairsD xs ys
  | _, _ => []
theorem pairsD_length : ∀ xs ys, (pairsD xs ys).length = min xs.length ys.length
  | [], ys => by simp [pairsD]
  | x :: xs, [] => by simp [pairsD]
  | x :: xs, y :: ys => by simp [pairsD, pairsD_length xs ys]
theorem pairsD_get : ∀ {xs ys : List D} {i : Nat} {d : D}, (pairsD xs ys)[i]? = some d → ∃ x y, xs[i]? = some x ∧ ys[i]? = some y ∧ d = .prs [x, y]
  | [], ys, i, d, h => by simp [pairsD] at h
  | x :: xs, [], i, d, h => by simp [pairsD] at h
  | x :: xs, y :: ys, 0, d, h => by simp [pairsD] at h; exact ⟨x, y, rfl, rfl, h.symm⟩
  | x :: xs, y :: ys, i + 1, d, h => by
    simp [pairsD] at h
    simpa using pairsD_get h
theorem pair_new {O : Own} {H M} {T : Addr} {x y : D} {u v : V} (g : Good O H M) (hT : H T = none) (rx : Rep O H M x u) (ry : Rep O H M y v) : Fz O H M (upd H T (.tup [u, v])) M ∧ Good O (upd H T (.tup [u, v])) M ∧ Rep O (upd H T (.tup [u, v])) M (.prs [x, y]) (.ref T) :=
  have z := fz_new (o := .tup [u, v]) g hT
  ⟨z, good_new g hT, T, [u, v], rfl, ⟨g.none hT, upd_same⟩, u, [v], rfl, rx.mono z, v, [], rfl, ry.mono z, rfl⟩
theorem walkD_zipL {O : Own} {H0 M0} {a b : Addr} {vs ws : List V} {xs ys : List D} (fa : ∀ O' H M, Cv O H0 M0 O' H M → Good O' H M → SqL O.K H a vs ∧ Reps O' H M xs vs) (fb : ∀ O' H M, Cv O H0 M0 O' H M → Good O' H M → SqL O.K H b ws ∧ Reps O' H M ys ws) (h0 : xs.length = vs.length) (h1 : ys.length = ws.length) : WalkD O (Itz O.K a b) H0 M0 (pairsD xs ys) always where
  goes := fun i O' H M hi z g _ => by
    rw [pairsD_length] at hi
    have l1 : i < vs.length := by omega
    have l2 : i < ws.length := by omega
    exact ⟨vs, ws, vs[i], ws[i], (fa O' H M z g).1, (fb O' H M z g).1, List.getElem?_eq_getElem l1, List.getElem?_eq_getElem l2⟩
  stops := fun O' H M z g _ => ⟨vs, ws, (fa O' H M z g).1, (fb O' H M z g).1, by rw [pairsD_length]; omega⟩
  yields := fun i O' H M d v H' hd z g _ y => by
    obtain ⟨T, u, w, rfl, hT, rfl, f1, f2⟩ := y
    obtain ⟨x, y, hx, hy, rfl⟩ := pairsD_get hd
    obtain ⟨d1, e1, r1⟩ := (fa O' H M z g).2.getV (f1 vs (fa O' H M z g).1)
    obtain ⟨d2, e2, r2⟩ := (fb O' H M z g).2.getV (f2 ws (fb O' H M z g).1)
    rw [hx] at e1; cases e1
    rw [hy] at e2; cases e2
    exact pair_new g hT r1 r2
theorem walkD_zipT {O : Own} {H0 M0} {a b : Addr} {vs ws : List V} {xs ys : List D} (fa : ∀ O' H M, Cv O H0 M0 O' H M → Good O' H M → SqT O.K H a vs ∧ Reps O' H M xs vs) (fb : ∀ O' H M, Cv O H0 M0 O' H M → Good O' H M → SqT O.K H b ws ∧ Reps O' H M ys ws) (h0 : xs.length = vs.length) (h1 : ys.length = ws.length) : WalkD O (ItzT O.K a b) H0 M0 (pairsD xs ys) always where
  goes := fun i O' H M hi z g _ => by
    rw [pairsD_length] at hi
    have l1 : i < vs.length := by omega
    have l2 : i < ws.length := by omega
    exact ⟨vs, ws, vs[i], ws[i], (fa O' H M z g).1, (fb O' H M z g).1, List.getElem?_eq_getElem l1, List.getElem?_eq_getElem l2⟩
  stops := fun O' H M z g _ => ⟨vs, ws, (fa O' H M z g).1, (fb O' H M z g).1, by rw [pairsD_length]; omega⟩
  yields := fun i O' H M d v H' hd z g _ y => by
    obtain ⟨T, u, w, rfl, hT, rfl, f1, f2⟩ := y
    obtain ⟨x, y, hx, hy, rfl⟩ := pairsD_get hd
    obtain ⟨d1, e1, r1⟩ := (fa O' H M z g).2.getV (f1 vs (fa O' H M z g).1)
    obtain ⟨d2, e2, r2⟩ := (fb O' H M z g).2.getV (f2 ws (fb O' H M z g).1)
    rw [hx] at e1; cases e1
    rw [hy] at e2; cases e2
    exact pair_new g hT r1 r2

section
variable {X : Cx} {CR : Addr} {E : DXS} {W : WX} {pos : Pos}
theorem i_it {tg l : Expr} {w : DE} (hl : PD X (bs X CR E W) l w) : PDI X (bs X CR E W) tg l (dIt w) := by
  refine ⟨fun pins s σ H R I h => ?_⟩
  obtain ⟨P, δ, M, Rd, hS, g, x, w, k⟩ := h
  refine thn (hl.run pins s σ H (fun v H' => LfV ⟨X.K, CR, P⟩ H M _ v H') I ⟨P, δ, M, _, hS, g, x, w, fun _ _ l => l⟩) fun u s1 hh => ?_
  obtain ⟨y, H1, I1, r1, d, M1, z1, g1, rd, q⟩ := hh
  cases d with
  | tup xs =>
    obtain ⟨a, vs, rfl, f, rs⟩ := rd
    cases r1
    have hq := f.sq
    obtain ⟨its, rv, pl, hz⟩ := I1.tuple hq
    refine wpAny_pyIter_tuple (show s1.heap.IsTuple a its.toArray from pl) ⟨s1.heap.objs.size, [s1.heap.objs.size], _, _, H1, rfl, I1.kept (t' := s1.toks) (fun b o e => Heap.get?_push_of_some _ e), turn_tuple a _, ⟨_, Heap.get?_push_size _ rfl, rfl, rfl⟩, fun b hb => ?_, k _ H1 xs _ M1 z1 g1 (walkD_tup f rs) q⟩
    rw [List.mem_singleton.mp hb]
    exact I1.fpOk (Nat.le_refl _) (I1.hok.fresh (Nat.le_refl _))
  | lst xs =>
    obtain ⟨a, vs, rfl, f, rs⟩ := rd
    cases r1
    obtain ⟨its, rv, pl, hz⟩ := I1.list f.sq
    refine wpAny_pyIter_list pl.isList ⟨s1.heap.objs.size, [s1.heap.objs.size], _, _, H1, rfl, I1.kept (t' := s1.toks) (fun b o e => Heap.get?_push_of_some _ e), turn_list a _, ⟨_, Heap.get?_push_size _ rfl, rfl, rfl⟩, fun b hb => ?_, k _ H1 xs _ M1 z1 g1 (walkD_list (.inl ⟨f.1, .inl f.2⟩) rs) q⟩
    rw [List.mem_singleton.mp hb]
    exact I1.fpOk (Nat.le_refl _) (I1.hok.fresh (Nat.le_refl _))
  | scr xs =>
    obtain ⟨a, vs, rfl, f, rs⟩ := rd
    cases r1
    obtain ⟨its, rv, pl, hz⟩ := I1.list f.sq
    refine wpAny_pyIter_list pl.isList ⟨s1.heap.objs.size, [s1.heap.objs.size], _, _, H1, rfl, I1.kept (t' := s1.toks) (fun b o e => Heap.get?_push_of_some _ e), turn_list a _, ⟨_, Heap.get?_push_size _ rfl, rfl, rfl⟩, fun b hb => ?_, k _ H1 xs _ M1 z1 g1 (walkD_list f rs) q⟩
    rw [List.mem_singleton.mp hb]
    exact I1.fpOk (Nat.le_refl _) (I1.hok.fresh (Nat.le_refl _))
  | ref p =>
    rw [show y = .ref p from rd] at r1
    cases r1
    obtain ⟨xs, e, q⟩ := q
    obtain ⟨vs, e1, rs⟩ := g1.at_ p _ e
    obtain ⟨its, rv, pl, hz⟩ := I1.list (SqL.of e1)
    refine wpAny_pyIter_list pl.isList ⟨s1.heap.objs.size, [s1.heap.objs.size], _, _, H1, rfl, I1.kept (t' := s1.toks) (fun b o e => Heap.get?_push_of_some _ e), turn_list p _, ⟨_, Heap.get?_push_size _ rfl, rfl, rfl⟩, fun b hb => ?_, k _ H1 xs _ M1 z1 g1 walkD_ref q⟩
    rw [List.mem_singleton.mp hb]
    exact I1.fpOk (Nat.le_refl _) (I1.hok.fresh (Nat.le_refl _))
  | str z =>
    rw [show y = .str z from rd] at r1
    obtain ⟨t, rfl⟩ := r1
    have q2 := k _ H1 _ _ M1 z1 g1 walkD_str q
    cases ha : z.cps.all (· < 128) with
    | false => exact wpAny_pyIter_wide ha (pi_one (tk := s1.toks) I1 _ (turn_str _ z t "str_iterator" (.inr rfl)) ⟨_, Heap.get?_push_size _ rfl, rfl, rfl⟩ q2)
    | true => exact wpAny_pyIter_ascii ha (pi_one (tk := s1.toks) I1 _ (turn_str _ z t "str_ascii_iterator" (.inl rfl)) ⟨_, Heap.get?_push_size _ rfl, rfl, rfl⟩ q2)
  | _ => exact (show False from q).elim
def rngD (i j : Int) : List D := (List.range (j - i).toNat).map fun (k : Nat) => .int (i + (k : Int))
def dRng1 (t : DA) : DI := fun δ M R => t δ M fun ds M1 => ∃ j : Int, ds = [.int j] ∧ (-(2 ^ 62) ≤ j ∧ j < 2 ^ 62) ∧ R (rngD 0 j) always M1
def dRng2 (t : DA) : DI := fun δ M R => t δ M fun ds M1 => ∃ i j : Int, ds = [.int i, .int j] ∧ (-(2 ^ 62) ≤ i ∧ i < 2 ^ 62 ∧ -(2 ^ 62) ≤ j ∧ j < 2 ^ 62) ∧ R (rngD i j) always M1
theorem i_rng1 {tg a : Expr} {ta : DA} {p : Pos} (hm : X.mg "range" = none) (ha : PDA X (bs X CR E W) [a] ta) (hg : Gl X "range" := by rfl) (hs : starEach [a] X.env = [(false, eval a X.env)] := by rfl) : PDI X (bs X CR E W) tg (.Call (.Name "range" p) [a] [] pos) (dRng1 ta) := by
  refine (pi_range1 hg hm ha hs).imp fun σ H R h => ?_
  obtain ⟨P, δ, M, Rd, hS, g, x, w, k⟩ := h
  refine ⟨P, δ, M, _, hS, g, x, w, fun vs H1 ds M1 z1 g1 rs q => ?_⟩
  obtain ⟨j, rfl, ⟨h1, h2⟩, q⟩ := q
  obtain ⟨v, r, rfl, e, e2⟩ := rs
  rw [show r = [] from e2, show v = .int j from e]
  refine ⟨j, rfl, h1, h2, k _ H1 (rngD 0 j) _ M1 z1 g1 ?_ q⟩
  rw [show j.toNat = (j - 0).toNat by rw [Int.sub_zero]]
  exact walkD_range
theorem i_rng2 {tg a b : Expr} {ta : DA} {p : Pos} (hm : X.mg "range" = none) (ha : PDA X (bs X CR E W) [a, b] ta) (hg : Gl X "range" := by rfl) (hs : starEach [a, b] X.env = [(false, eval a X.env), (false, eval b X.env)] := by rfl) (hs2 : starEach [b] X.env = [(false, eval b X.env)] := by rfl) : PDI X (bs X CR E W) tg (.Call (.Name "range" p) [a, b] [] pos) (dRng2 ta) := by
  refine (pi_range2 hg hm ha hs hs2).imp fun σ H R h => ?_
  obtain ⟨P, δ, M, Rd, hS, g, x, w, k⟩ := h
  refine ⟨P, δ, M, _, hS, g, x, w, fun vs H1 ds M1 z1 g1 rs q => ?_⟩
  obtain ⟨i, j, rfl, hb, q⟩ := q
  obtain ⟨v, r, rfl, e, v2, r2, rfl, e2, e3⟩ := rs
  rw [show r2 = [] from e3, show v = .int i from e, show v2 = .int j from e2]
  exact ⟨i, j, rfl, hb, k _ H1 (rngD i j) _ M1 z1 g1 walkD_range q⟩
/-- what zip takes: two lists or two tuples -/
def seqL (d : D) (M : Mem) (xs : List D) : Prop := d = .lst xs
def seqT (d : D) (xs : List D) : Prop := d = .tup xs
def dZip (t : DA) : DI := fun δ M R => t δ M fun ds M1 => ∃ xs ys, (ds = [.tup xs, .tup ys] ∨ ds = [.lst xs, .lst ys]) ∧ R (pairsD xs ys) always M1
theorem i_zip {e e2 : Expr} {ta : DA} {p tpos : Pos} {elts : List Expr} {kk : Nat} (hm : X.mg "zip" = none) (ha : PDA X (bs X CR E W) [e, e2] ta) (hg : Gl X "zip" := by rfl)
    (hs : starEach [e, e2] X.env = (false, eval e X.env) :: starEach [e2] X.env := by rfl) (hpl : (backTo pos (starEach [e2] X.env)).any (·.1) = false := by rfl) :
    PDI X (bs X CR E W) (.Tuple elts kk tpos) (.Call (.Name "zip" p) [e, e2] [] pos) (dZip ta) := by
  refine (pi_zipA hg hm ha hs hpl).imp fun σ H R h => ?_
  obtain ⟨P, δ, M, Rd, hS, g, x, w, k⟩ := h
  refine ⟨P, δ, M, _, hS, g, x, w, fun vs H1 ds M1 z1 g1 rs q => ?_⟩
  obtain ⟨xs, ys, e, q⟩ := q
  rcases e with rfl | rfl
  · obtain ⟨v, r, rfl, ⟨a, va, rfl, f1, r1⟩, v2, r2, rfl, ⟨b, vb, rfl, f2, r2'⟩, e3⟩ := rs
    rw [show r2 = [] from e3]
    exact ⟨a, b, va, vb, rfl, .inr ⟨f1.sq, f2.sq, k _ H1 _ _ M1 z1 g1 (walkD_zipT (fun O' H M z g => ⟨z.k ▸ (f1.cv z).sq, r1.cv z⟩) (fun O' H M z g => ⟨z.k ▸ (f2.cv z).sq, r2'.cv z⟩) r1.length r2'.length) q⟩⟩
  · obtain ⟨v, r, rfl, ⟨a, va, rfl, f1, r1⟩, v2, r2, rfl, ⟨b, vb, rfl, f2, r2'⟩, e3⟩ := rs
    rw [show r2 = [] from e3]
    exact ⟨a, b, va, vb, rfl, .inl ⟨f1.sq, f2.sq, k _ H1 _ _ M1 z1 g1 (walkD_zipL (fun O' H M z g => ⟨z.k ▸ (f1.cv z).sq, r1.cv z⟩) (fun O' H M z g => ⟨z.k ▸ (f2.cv z).sq, r2'.cv z⟩) r1.length r2'.length) q⟩⟩
end
/-! ### for -/
def dLoop (chk : Mem → Prop) (g : DG) (body : DSt) : List D → DSt
  | [], D, δ, M => chk M ∧ D.nx δ M
  | x :: xs, D, δ, M => chk M ∧ g x δ M fun δ1 M1 => body { D with nx := dLoop chk g body xs D, ct := dLoop chk g body xs D, bk := D.nx } δ1 M1
def dFor (it : DI) (g : DG) (body : DSt) : DSt := fun D δ M => it δ M fun xs chk M1 => dLoop chk g body xs D δ M1
section
variable {X : Cx} {CR : Addr} {E : DXS} {W : WX} {pos : Pos}
theorem dLoop_chk {chk g body xs D δ M} (h : dLoop chk g body xs D δ M) : chk M := by
  cases xs with
  | nil => exact h.1
  | cons x xs => exact h.1
theorem s_for {tg iter : Expr} {body : List Stmt} {it : DI} {gd : DG} {wb : DSt} (hp : PassesOwn (model X.prog X.w) X.A X.env X.xe) (hc : X.calm = true) (hi : PDI X (bs X CR E W) tg iter it) (hg : PDG X (bs X CR E W) tg gd) (hb : PDSs X (bs X CR E W) body wb)
    (hs : ∀ x, foldedSetIterable iter X.env x = pure x := by intro _; rfl) : PDS X (bs X CR E W) (.For tg iter body [] pos) (dFor it gd wb) := by
  refine (ps_for hp hc hi hg hb hs).imp fun Dn σ H h => ?_
  obtain ⟨P, δ, M, Dd, hS, g, x, w, k⟩ := h
  refine ⟨P, δ, M, _, hS, g, x, w, fun J H1 xs chk M1 z1 g1 W q => ?_⟩
  refine ⟨fun i m σ' H' => m = xs.length - i ∧ i ≤ xs.length ∧ ∃ δ' M', Fz ⟨X.K, CR, P⟩ H1 M1 H' M' ∧ RepS ⟨X.K, CR, P⟩ H' M' δ' σ' ∧ Good ⟨X.K, CR, P⟩ H' M' ∧ dLoop chk gd wb (xs.drop i) Dd δ' M',
    ⟨xs.length, by simp, Nat.zero_le _, δ, M1, Fz.refl, hS.mono z1, g1, by simpa using q⟩, fun i m σ' H' hw => ?_⟩
  obtain ⟨rfl, hi', δ', M', z, hS', g', hl⟩ := hw
  have hck := dLoop_chk hl
  by_cases hlt : i < xs.length
  · rw [List.drop_eq_getElem_cons hlt] at hl
    refine .inr ⟨W.goes i _ H' M' hlt z.cv g' hck, fun σ2 H2 => ∃ δ2 M2, Fz ⟨X.K, CR, P⟩ H1 M1 H2 M2 ∧ RepS ⟨X.K, CR, P⟩ H2 M2 δ2 σ2 ∧ Good ⟨X.K, CR, P⟩ H2 M2 ∧ dLoop chk gd wb (xs.drop (i + 1)) Dd δ2 M2, fun σ2 H2 hn => ⟨xs.length - (i + 1), by omega, rfl, hlt, hn⟩, fun v H2 hy => ?_⟩
    obtain ⟨z2, g2, rd⟩ := W.yields i _ H' M' _ v H2 (List.getElem?_eq_getElem hlt) z.cv g' hck hy
    refine ⟨P, xs[i], δ', M', _, rd, hS'.mono z2, g2, (x.trans z1).trans (z.trans z2), hl.2, fun σ3 H3 ⟨δ3, M3, z3, g3, hS3, q3⟩ => ?_⟩
    have zz := (z.trans z2).trans z3
    refine ⟨P, δ3, M3, _, hS3, g3, (x.trans z1).trans zz, q3, ⟨fun σ4 H4 ⟨δ4, M4, z4, g4, hS4, q4⟩ => ⟨δ4, M4, zz.trans z4, hS4, g4, q4⟩, fun v4 H4 l => k.rt v4 H4 ((l.trans zz).trans z1), fun σ4 H4 l => k.nx σ4 H4 ((l.trans zz).trans z1), fun σ4 H4 ⟨δ4, M4, z4, g4, hS4, q4⟩ => ⟨δ4, M4, zz.trans z4, hS4, g4, q4⟩⟩⟩
  · have e : i = xs.length := by omega
    subst e
    rw [List.drop_length] at hl
    exact .inl ⟨W.stops _ H' M' z.cv g' hck, k.nx σ' H' ⟨δ', M', z1.trans z, g', hS', hl.2⟩⟩
end
/-! ### list comprehensions -/
def wipeD (δ : DS0) : List Nat → DS0
  | [] => δ
  | v :: vs => (wipeD δ vs).set v none
theorem RepS.wipe {O : Own} {H M} {δ : DS0} {σ : L2.St} (r : RepS O H M δ σ) : ∀ vs : List Nat, RepS O H M (wipeD δ vs) (L2.wipe σ vs)
  | [] => r
  | v :: vs => (RepS.wipe r vs).unset
/-- a comprehension's target: it stores its own names alone -/
def CG (K : PySem.W.Frag) (CR : Addr) (vs : List Nat) (g : TG) (gd : DG) : Prop := ∀ P v d σ σ0 δ H M Qd, Rep ⟨K, CR, P⟩ H M d v → RepS ⟨K, CR, P⟩ H M δ σ → Good ⟨K, CR, P⟩ H M → L2.wipe σ vs = L2.wipe σ0 vs → gd d δ M Qd → g v σ H fun σ2 H2 => L2.wipe σ2 vs = L2.wipe σ0 vs ∧ LfS ⟨K, CR, P⟩ H M Qd σ2 H2
theorem wipe_get (σ : L2.St) : ∀ (vs : List Nat) (i : Nat), (L2.wipe σ vs)[i]? = if i ∈ vs ∧ i < σ.length then some none else σ[i]?
  | [], i => by simp [L2.wipe]
  | v :: vs, i => by
    have ih := wipe_get σ vs i
    show ((L2.wipe σ vs).set v none)[i]? = _
    rw [List.getElem?_set, wipe_length]
    by_cases h : v = i
    · subst h
      by_cases hl : v < σ.length
      · simp [hl]
      · simp [hl, List.getElem?_eq_none (Nat.le_of_not_lt hl)]
    · rw [if_neg h, ih]
      have h' : i ≠ v := fun e => h e.symm
      simp [h']
theorem wipe_set {σ : L2.St} {vs : List Nat} {j : Nat} {x : Option V} (h : j ∈ vs) : L2.wipe (σ.set j x) vs = L2.wipe σ vs := by
  apply List.ext_getElem?
  intro i
  rw [wipe_get, wipe_get, List.length_set, List.getElem?_set]
  by_cases e : j = i
  · subst e
    by_cases hl : j < σ.length
    · simp [h, hl]
    · simp [hl, List.getElem?_eq_none (Nat.le_of_not_lt hl)]
  · rw [if_neg e]
theorem wipe_wipe {σ : L2.St} {vs : List Nat} : L2.wipe (L2.wipe σ vs) vs = L2.wipe σ vs := by
  apply List.ext_getElem?
  intro i
  rw [wipe_get, wipe_get, wipe_length]
  split <;> rfl
theorem cg_nm {K CR} {vs : List Nat} {j : Nat} (h : j ∈ vs) : CG K CR vs (gName j) (gNm j) := by
  intro P v d σ σ0 δ H M Qd r hS g hw q
  exact ⟨by rw [wipe_set h]; exact hw, _, M, Fz.refl, g, hS.set r, q⟩
def CGs (K : PySem.W.Frag) (CR : Addr) (vs : List Nat) (g : TGs) (gd : DGs) : Prop := ∀ P xs ds σ σ0 δ H M Qd, Reps ⟨K, CR, P⟩ H M ds xs → RepS ⟨K, CR, P⟩ H M δ σ → Good ⟨K, CR, P⟩ H M → L2.wipe σ vs = L2.wipe σ0 vs → gd ds δ M Qd → g xs σ H fun σ2 H2 => L2.wipe σ2 vs = L2.wipe σ0 vs ∧ LfS ⟨K, CR, P⟩ H M Qd σ2 H2
theorem cgs_nil {K CR vs} : CGs K CR vs gNil gsNil := by
  intro P xs ds σ σ0 δ H M Qd r hS g hw ⟨e, q⟩
  subst e
  exact ⟨r, hw, δ, M, Fz.refl, g, hS, q⟩
theorem cgs_cons {K CR vs} {g1 : TG} {gd : DG} {t : TGs} {td : DGs} (h1 : CG K CR vs g1 gd) (mono : ∀ v σ H Q Q', (∀ σ H, Q σ H → Q' σ H) → g1 v σ H Q → g1 v σ H Q') (h2 : CGs K CR vs t td) (monos : ∀ v σ H Q Q', (∀ σ H, Q σ H → Q' σ H) → t v σ H Q → t v σ H Q') : CGs K CR vs (gCons g1 t) (gsCons gd td) := by
  intro P xs ds σ σ0 δ H M Qd r hS g hw ⟨d, rr, e, q⟩
  subst e
  obtain ⟨v, vr, rfl, r1, r2⟩ := r
  refine ⟨v, vr, rfl, mono _ _ _ _ _ (fun σ' H' hh => ?_) (h1 P v d σ σ0 δ H M _ r1 hS g hw q)⟩
  obtain ⟨hw', δ', M', z, g', hS', q'⟩ := hh
  exact monos _ _ _ _ _ (fun σ2 H2 hh => ⟨hh.1, hh.2.trans z⟩) (h2 P vr rr σ' σ0 δ' H' M' Qd (r2.mono z) hS' g' hw' q')
theorem mono_nm {j : Nat} : ∀ v σ H (Q Q' : L2.St → Hp → Prop), (∀ σ H, Q σ H → Q' σ H) → gName j v σ H Q → gName j v σ H Q' := fun v σ H Q Q' i h => i _ _ h
theorem mono_nil : ∀ v σ H (Q Q' : L2.St → Hp → Prop), (∀ σ H, Q σ H → Q' σ H) → gNil v σ H Q → gNil v σ H Q' := fun v σ H Q Q' i h => ⟨h.1, i _ _ h.2⟩
theorem mono_cons {g : TG} {t : TGs} (m : ∀ v σ H (Q Q' : L2.St → Hp → Prop), (∀ σ H, Q σ H → Q' σ H) → g v σ H Q → g v σ H Q') (ms : ∀ v σ H (Q Q' : L2.St → Hp → Prop), (∀ σ H, Q σ H → Q' σ H) → t v σ H Q → t v σ H Q') : ∀ v σ H (Q Q' : L2.St → Hp → Prop), (∀ σ H, Q σ H → Q' σ H) → gCons g t v σ H Q → gCons g t v σ H Q' := fun v σ H Q Q' i h => by
  obtain ⟨x, r, e, q⟩ := h
  exact ⟨x, r, e, m _ _ _ _ _ (fun σ1 H1 h1 => ms _ _ _ _ _ i h1) q⟩
theorem mono_tu {K : PySem.W.Frag} {n : Nat} {t : TGs} (ms : ∀ v σ H (Q Q' : L2.St → Hp → Prop), (∀ σ H, Q σ H → Q' σ H) → t v σ H Q → t v σ H Q') : ∀ v σ H (Q Q' : L2.St → Hp → Prop), (∀ σ H, Q σ H → Q' σ H) → gTup K n t v σ H Q → gTup K n t v σ H Q' := fun v σ H Q Q' i ⟨a, ws, e, f, l, q⟩ => ⟨a, ws, e, f, l, ms _ _ _ _ _ i q⟩
theorem cg_tu {K CR vs} {n : Nat} {t : TGs} {td : DGs} (h : CGs K CR vs t td) : CG K CR vs (gTup K n t) (gTu n td) := by
  intro P v d σ σ0 δ H M Qd r hS g hw ⟨xs, e, hl, q⟩
  obtain ⟨a, ws, rfl, f, rs⟩ := tupS_at e r
  exact ⟨a, ws, rfl, f, by rw [← rs.length]; exact hl, h P ws xs σ σ0 δ H M Qd rs hS g hw q⟩

/-- [e for target in iter if t]: from what has been made -/
def dLcL (chk : Mem → Prop) (g : DG) (tt : DT) (te : DE) (δ : DS0) : List D → List D → Mem → (List D → Mem → Prop) → Prop
  | [], acc, M, Q => chk M ∧ Q acc M
  | x :: xs, acc, M, Q => chk M ∧ acc.length < sizeLine ∧ g x δ M fun δ2 M2 => tt δ2 M2 fun b M3 => if b = true then te δ2 M3 fun y M4 => dLcL chk g tt te δ xs (acc ++ [y]) M4 Q else dLcL chk g tt te δ xs acc M3 Q
def dYes : DT := fun _ M Q => Q true M
/-- let go at once | kept for changing -/
def dLc (it : DI) (g : DG) (tt : DT) (te : DE) (vs : List Nat) : DE := fun δ M Q => it δ M fun xs chk M1 => dLcL chk g tt te (wipeD δ vs) xs [] M1 fun acc M2 => Q (.lst acc) M2
def dLcR (it : DI) (g : DG) (tt : DT) (te : DE) (vs : List Nat) : DE := fun δ M Q => it δ M fun xs chk M1 => dLcL chk g tt te (wipeD δ vs) xs [] M1 fun acc M2 => ∀ p, M2 p = none → Q (.ref p) (mput M2 p (.lst acc))
abbrev PDTs (X : Cx) (B : Bs) (ifs : List Expr) (w : DT) : Prop := PTs X ifs (lT B w)
theorem _root_.L2.PTs.imp {X : Cx} {e : List Expr} {t t' : TT} (h : PTs X e t) (i : ∀ σ H Q, t' σ H Q → t σ H Q) : PTs X e t' := ⟨fun p s σ H Q I q => h.run p s σ H Q I (i σ H Q q)⟩
theorem ts_nil {X : Cx} {CR : Addr} {E : DXS} {W : WX} : PDTs X (bs X CR E W) [] dYes := PTs.imp pts_nil fun σ H Q ⟨P, δ, M, Qd, hS, g, x, w, k⟩ => k true H M Fz.refl g w
theorem ts_one {X : Cx} {CR : Addr} {E : DXS} {W : WX} {c : Expr} {t : DT} (h : PDT X (bs X CR E W) c t) : PDTs X (bs X CR E W) [c] t := pts_one h
theorem dLcL_chk {chk g tt te δ xs acc M Q} (h : dLcL chk g tt te δ xs acc M Q) : chk M := by
  cases xs with
  | nil => exact h.1
  | cons x xs => exact h.1
/-- the same, L hidden besides -/
def hide (O : Own) (L : Addr) : Own := ⟨O.K, O.CR, fun a => O.P a ∨ a = L⟩
section
variable {O : Own} {H : Hp} {M : Mem} {L : Addr}
theorem cv_hide (h : H L = none) {o : HO} : Cv O H M (hide O L) (upd H L o) M := ⟨rfl, rfl, fun a u m e => by
  have n := ne_of_none e h
  exact ⟨by rw [upd_ne n]; exact e, m.1, fun q => q.elim m.2 n⟩⟩
theorem cv_unhide : Cv (hide O L) H M O H M := ⟨rfl, rfl, fun a u m e => ⟨e, m.1, fun q => m.2 (.inl q)⟩⟩
theorem cv_updh {o : HO} : Cv (hide O L) H M (hide O L) (upd H L o) M := ⟨rfl, rfl, fun a u m e => ⟨by rw [upd_ne fun z => m.2 (.inr z)]; exact e, m⟩⟩
theorem cv_put {o : MO} : Cv (hide O L) H M O H (mput M L o) := ⟨rfl, rfl, fun a u m e => ⟨e, by rw [mput_ne fun z => m.2 (.inr z)]; exact m.1, fun q => m.2 (.inl q)⟩⟩
theorem good_hide (g : Good O H M) (h : H L = none) {o : HO} : Good (hide O L) (upd H L o) M := ⟨fun a u m => by
  have r := g.at_ a u m
  have n : a ≠ L := fun z => r.there (z ▸ h)
  exact r.cv (cv_hide h) fun v e => by rw [upd_ne n]; exact e, fun a q => by
  by_cases n : a = L
  · subst n
    exact ⟨(g.none h).1, by rw [upd_same]; simp⟩
  · rw [upd_ne n]
    exact g.hid a (q.resolve_right n)⟩
theorem good_unhide (g : Good (hide O L) H M) : Good O H M := ⟨fun a u m => (g.at_ a u m).cv cv_unhide fun _ e => e, fun a q => g.hid a (.inl q)⟩
theorem good_updh (g : Good (hide O L) H M) {o : HO} : Good (hide O L) (upd H L o) M := ⟨fun a u m => by
  have n : a ≠ L := fun z => by
    have := (g.hid L (.inr rfl)).1
    rw [← z, m] at this; cases this
  exact (g.at_ a u m).cv cv_updh fun v e => by rw [upd_ne n]; exact e, fun a q => by
  by_cases n : a = L
  · subst n
    exact ⟨(g.hid a q).1, by rw [upd_same]; simp⟩
  · rw [upd_ne n]; exact g.hid a q⟩
theorem good_shown (g : Good (hide O L) H M) (np : ¬ O.P L) {vs : List V} {ds : List D} (h : H L = some (.lst vs)) (r : Reps (hide O L) H M ds vs) : Good O H (mput M L (.lst ds)) := ⟨fun a u m => by
  by_cases n : a = L
  · subst n
    rw [mput_same] at m; cases m
    exact ⟨vs, h, r.cv cv_put⟩
  · rw [mput_ne n] at m
    exact (g.at_ a u m).cv cv_put fun _ e => e, fun a q => by
  have n : a ≠ L := fun z => np (z ▸ q)
  rw [mput_ne n]
  exact g.hid a (.inl q)⟩
/-- since the start, L apart -/
theorem fz_past {H0 H' : Hp} {M0 M' : Mem} (z : Fz O H0 M0 H M) (h : H0 L = none) (np : ¬ O.P L) (z2 : Fz (hide O L) H M H' M') : Fz O H0 M0 H' M' := ⟨fun a u m e => by
  have n := ne_of_none e h
  obtain ⟨e1, m1⟩ := z.st a u m e
  exact z2.st a u ⟨m1, fun q => q.elim m.2 n⟩ e1, fun a q => (z2.hid a (.inl q)).trans (z.hid a q)⟩
theorem cv_past {H0 : Hp} {M0 : Mem} (z : Fz O H0 M0 H M) (h : H0 L = none) (np : ¬ O.P L) : Cv O H0 M0 (hide O L) H M := ⟨rfl, rfl, fun a u m e =>
  ⟨(z.st a u m e).1, (z.st a u m e).2, fun q => q.elim m.2 (ne_of_none e h)⟩⟩
theorem fz_updh {H0 : Hp} {M0 : Mem} (z : Fz O H0 M0 H M) (h : H0 L = none) (np : ¬ O.P L) {o : HO} : Fz O H0 M0 (upd H L o) M := ⟨fun a u m e => by
  have n := ne_of_none e h
  rw [upd_ne n]
  exact z.st a u m e, fun a q => by
  have n : a ≠ L := fun e => np (e ▸ q)
  rw [upd_ne n]
  exact z.hid a q⟩
end
theorem lcE {X : Cx} {CR : Addr} {E : DXS} {W : WX} {it : DI} {g : TG} {gd : DG} {tt : DT} {te : DE} {vs : List Nat} {F : List D → Mem → DK → Prop}
    (hg : CG X.K CR vs g gd) (mono : ∀ v σ H (Q Q' : L2.St → Hp → Prop), (∀ σ H, Q σ H → Q' σ H) → g v σ H Q → g v σ H Q')
    (hF : ∀ (O : Own) (H0 H : Hp) (M : Mem) (L : Addr) (us : List V) (acc : List D) (Qd : DK), H0 L = none → ¬ O.P L → Good (hide O L) H M → H L = some (.lst us) → Reps (hide O L) H M acc us → F acc M Qd → ∃ d M', (∀ H0 M0, Fz O H0 M0 H M → H0 L = none → Fz O H0 M0 H M') ∧ Good O H M' ∧ Rep O H M' d (.ref L) ∧ Qd d M') :
    ∀ σ H Q, lE (bs X CR E W) (fun δ M Q => it δ M fun xs chk M1 => dLcL chk gd tt te (wipeD δ vs) xs [] M1 fun acc M2 => F acc M2 Q) σ H Q → tLc (lI (bs X CR E W) it) g (lT (bs X CR noE noW) tt) (lE (bs X CR noE noW) te) vs σ H Q := by
  intro σ H Q h
  obtain ⟨P, δ, M, Qd, hS, g0, x, w, k⟩ := h
  refine ⟨P, δ, M, _, hS, g0, x, w, fun J H1 xs chk M1 z1 g1 W q => fun L hL => ?_⟩
  have np : ¬ P L := (g1.none hL).2
  refine ⟨fun i m H' => m = xs.length - i ∧ i ≤ xs.length ∧ ∃ M' us acc, Fz ⟨X.K, CR, P⟩ H1 M1 H' M' ∧ Good (hide ⟨X.K, CR, P⟩ L) H' M' ∧ RepS (hide ⟨X.K, CR, P⟩ L) H' M' (wipeD δ vs) (L2.wipe σ vs) ∧ H' L = some (.lst us) ∧ Reps (hide ⟨X.K, CR, P⟩ L) H' M' acc us ∧
      dLcL chk gd tt te (wipeD δ vs) (xs.drop i) acc M' (fun acc M2 => F acc M2 Qd), ⟨xs.length, by simp, Nat.zero_le _, M1, [], [], fz_new g1 hL, good_hide g1 hL, ((hS.mono z1).cv (cv_hide hL)).wipe vs, upd_same, rfl, by simpa using q⟩, fun i m H' hw => ?_⟩
  obtain ⟨rfl, hi', M', us, acc, z, g', hS', hLs, ra, hl⟩ := hw
  have hck := dLcL_chk hl
  have zc := cv_past z hL (g1.none hL).2
  by_cases hlt : i < xs.length
  · rw [List.drop_eq_getElem_cons hlt] at hl
    obtain ⟨_, hz, hl⟩ := hl
    refine .inr ⟨W.goes i _ H' M' hlt zc g' hck, fun H2 => ∃ M2 us acc, Fz ⟨X.K, CR, P⟩ H1 M1 H2 M2 ∧ Good (hide ⟨X.K, CR, P⟩ L) H2 M2 ∧ RepS (hide ⟨X.K, CR, P⟩ L) H2 M2 (wipeD δ vs) (L2.wipe σ vs) ∧ H2 L = some (.lst us) ∧ Reps (hide ⟨X.K, CR, P⟩ L) H2 M2 acc us ∧
      dLcL chk gd tt te (wipeD δ vs) (xs.drop (i + 1)) acc M2 (fun acc M2 => F acc M2 Qd), fun H2 hn => ⟨xs.length - (i + 1), by omega, rfl, hlt, hn⟩, fun v H2 hy => ?_⟩
    obtain ⟨z2, g2, rd⟩ := W.yields i _ H' M' _ v H2 (List.getElem?_eq_getElem hlt) zc g' hck hy
    refine hg _ v _ _ σ (wipeD δ vs) H2 M' _ rd (hS'.mono z2) g2 wipe_wipe hl |> mono _ _ _ _ _ fun σ3 H3 hh => ?_
    obtain ⟨hw3, δ3, M3, z3, g3, hS3, q3⟩ := hh
    refine ⟨hw3, _, δ3, M3, _, hS3, g3, XL.no, q3, fun b H4 M4 z4 g4 q4 => ?_⟩
    have zz := (z2.trans z3).trans z4
    cases b with
    | false => exact ⟨M4, us, acc, fz_past z hL np zz, g4, hS'.mono zz, (zz.hid L (.inr rfl)).trans hLs, ra.mono zz, q4⟩
    | true =>
      refine ⟨_, δ3, M4, _, hS3.mono z4, g4, XL.no, q4, fun v5 H5 ⟨d5, M5, z5, g5, r5, q5⟩ => ?_⟩
      have z6 := zz.trans z5
      refine ⟨us, (z6.hid L (.inr rfl)).trans hLs, by rw [← ra.length]; exact hz, M5, us ++ [v5], acc ++ [d5], fz_updh (fz_past z hL np z6) hL np, good_updh (O := ⟨X.K, CR, P⟩) g5, (hS'.mono z6).cv (cv_updh (O := ⟨X.K, CR, P⟩)), upd_same, ((ra.mono z6).append (Reps.one r5)).cv (cv_updh (O := ⟨X.K, CR, P⟩)), q5⟩
  · have e : i = xs.length := by omega
    subst e
    rw [List.drop_length] at hl
    refine .inl ⟨W.stops _ H' M' zc g' hck, ?_⟩
    obtain ⟨d, M2, f2, g2, r2, q2⟩ := hF ⟨X.K, CR, P⟩ H1 H' M' L us acc Qd hL np g' hLs ra hl.2
    exact k _ H' ⟨d, M2, z1.trans (f2 H1 M1 z hL), g2, r2, q2⟩
theorem fin_lst : ∀ (O : Own) (H0 H : Hp) (M : Mem) (L : Addr) (us : List V) (acc : List D) (Qd : DK), H0 L = none → ¬ O.P L → Good (hide O L) H M → H L = some (.lst us) → Reps (hide O L) H M acc us → Qd (.lst acc) M → ∃ d M', (∀ H0 M0, Fz O H0 M0 H M → H0 L = none → Fz O H0 M0 H M') ∧ Good O H M' ∧ Rep O H M' d (.ref L) ∧ Qd d M' :=
  fun O H0 H M L us acc Qd h0 np g hL r q => ⟨.lst acc, M, fun _ _ z _ => z, good_unhide g, ⟨L, us, rfl, ⟨⟨(g.hid L (.inr rfl)).1, np⟩, hL⟩, r.cv cv_unhide⟩, q⟩
theorem fin_ref : ∀ (O : Own) (H0 H : Hp) (M : Mem) (L : Addr) (us : List V) (acc : List D) (Qd : DK), H0 L = none → ¬ O.P L → Good (hide O L) H M → H L = some (.lst us) → Reps (hide O L) H M acc us → (∀ p, M p = none → Qd (.ref p) (mput M p (.lst acc))) → ∃ d M', (∀ H0 M0, Fz O H0 M0 H M → H0 L = none → Fz O H0 M0 H M') ∧ Good O H M' ∧ Rep O H M' d (.ref L) ∧ Qd d M' :=
  fun O H0 H M L us acc Qd h0 np g hL r q => ⟨.ref L, mput M L (.lst acc), fun H0 M0 z h => ⟨fun a u m e => by
    have n := ne_of_none e h
    exact ⟨(z.st a u m e).1, by rw [mput_ne n]; exact (z.st a u m e).2⟩, z.hid⟩, good_shown g np hL r, rfl, q L (g.hid L (.inr rfl)).1⟩
section
variable {X : Cx} {CR : Addr} {E : DXS} {W : WX} {pos : Pos}
/-- the comprehension as a value; own: its names and their slots; g, gd: its target's two readings -/
theorem d_lc {elt tg iter : Expr} {ifs : List Expr} {scope : Scope} {own : List (Str × Nat)} {it : DI} {g : TG} {gd : DG} {tt : DT} {te : DE} (hc : X.calm = true) (hN : X.N.Nodup) (hi : PDI X (bs X CR E W) tg iter it) (ok : blkC X.N X.env.scope scope own = true)
    (hcg : CG X.K CR (own.map (·.2)) g gd) (mono : ∀ v σ H (Q Q' : L2.St → Hp → Prop), (∀ σ H, Q σ H → Q' σ H) → g v σ H Q → g v σ H Q')
    (hg : ∀ (s : Shared) (H : Hp) (C : Addr) (cl : List (Str × Addr)) (fp : List Addr), PG (X.blk s H scope (compEnvC scope cl C X.env) fp) tg g) (ht : ∀ (s : Shared) (H : Hp) (C : Addr) (cl : List (Str × Addr)) (fp : List Addr), PDTs (X.blk s H scope (compEnvC scope cl C X.env) fp) (bs X CR noE noW) ifs tt)
    (he : ∀ (s : Shared) (H : Hp) (C : Addr) (cl : List (Str × Addr)) (fp : List Addr), PD (X.blk s H scope (compEnvC scope cl C X.env) fp) (bs X CR noE noW) elt te) (hs : ∀ x, foldedSetIterable iter X.env x = pure x := by intro _; rfl) :
    PD X (bs X CR E W) (.ListComp elt [⟨tg, iter, ifs, 0⟩] scope pos) (dLc it gd tt te (own.map (·.2))) :=
  (pe_lc hc hN hi (blkOk_by ok) hg ht he hs).imp (lcE hcg mono (F := fun acc M Q => Q (.lst acc) M) fin_lst)
theorem d_lcR {elt tg iter : Expr} {ifs : List Expr} {scope : Scope} {own : List (Str × Nat)} {it : DI} {g : TG} {gd : DG} {tt : DT} {te : DE} (hc : X.calm = true) (hN : X.N.Nodup) (hi : PDI X (bs X CR E W) tg iter it) (ok : blkC X.N X.env.scope scope own = true)
    (hcg : CG X.K CR (own.map (·.2)) g gd) (mono : ∀ v σ H (Q Q' : L2.St → Hp → Prop), (∀ σ H, Q σ H → Q' σ H) → g v σ H Q → g v σ H Q')
    (hg : ∀ (s : Shared) (H : Hp) (C : Addr) (cl : List (Str × Addr)) (fp : List Addr), PG (X.blk s H scope (compEnvC scope cl C X.env) fp) tg g) (ht : ∀ (s : Shared) (H : Hp) (C : Addr) (cl : List (Str × Addr)) (fp : List Addr), PDTs (X.blk s H scope (compEnvC scope cl C X.env) fp) (bs X CR noE noW) ifs tt)
    (he : ∀ (s : Shared) (H : Hp) (C : Addr) (cl : List (Str × Addr)) (fp : List Addr), PD (X.blk s H scope (compEnvC scope cl C X.env) fp) (bs X CR noE noW) elt te) (hs : ∀ x, foldedSetIterable iter X.env x = pure x := by intro _; rfl) :
    PD X (bs X CR E W) (.ListComp elt [⟨tg, iter, ifs, 0⟩] scope pos) (dLcR it gd tt te (own.map (·.2))) :=
  (pe_lc hc hN hi (blkOk_by ok) hg ht he hs).imp (lcE hcg mono (F := fun acc M Q => ∀ p, M p = none → Q (.ref p) (mput M p (.lst acc))) fin_ref)
/-- name = [..] on one line -/
theorem setlcE {w : DE} {t : TE} {i : Nat} (h : ∀ σ H Q, lE (bs X CR E W) w σ H Q → t σ H Q) : ∀ Dn σ H, lS (bs X CR E W) (dSet i w) Dn σ H → tAsg t (gName i) Dn σ H := by
  intro Dn σ H hh
  obtain ⟨P, δ, M, Dd, hS, g, x, w, k⟩ := hh
  exact h σ H _ ⟨P, δ, M, _, hS, g, x, w, fun v H1 ⟨d, M1, z1, g1, r1, q⟩ => k.nx _ H1 ⟨_, M1, z1, g1, (hS.mono z1).set r1, q⟩⟩
theorem s_setLc {i : Nat} {y : Str} {py spos : Pos} {elt tg iter : Expr} {ifs : List Expr} {scope : Scope} {own : List (Str × Nat)} {it : DI} {g : TG} {gd : DG} {tt : DT} {te : DE} (hc : X.calm = true) (hN : X.N.Nodup) (hi : PDI X (bs X CR E W) tg iter it) (ok : blkC X.N X.env.scope scope own = true)
    (hcg : CG X.K CR (own.map (·.2)) g gd) (mono : ∀ v σ H (Q Q' : L2.St → Hp → Prop), (∀ σ H, Q σ H → Q' σ H) → g v σ H Q → g v σ H Q')
    (hg : ∀ (s : Shared) (H : Hp) (C : Addr) (cl : List (Str × Addr)) (fp : List Addr), PG (X.blk s H scope (compEnvC scope cl C X.env) fp) tg g) (ht : ∀ (s : Shared) (H : Hp) (C : Addr) (cl : List (Str × Addr)) (fp : List Addr), PDTs (X.blk s H scope (compEnvC scope cl C X.env) fp) (bs X CR noE noW) ifs tt)
    (he : ∀ (s : Shared) (H : Hp) (C : Addr) (cl : List (Str × Addr)) (fp : List Addr), PD (X.blk s H scope (compEnvC scope cl C X.env) fp) (bs X CR noE noW) elt te) (hsw : swapsWith (.ListComp elt [⟨tg, iter, ifs, 0⟩] scope pos) (some (.Name y py)) spos.line X.env = pure true) (hy : X.N[i]? = some y := by rfl) (hyl : X.env.scope.names.lookup y = some .local := by rfl) (hs : ∀ x, foldedSetIterable iter X.env x = pure x := by intro _; rfl) :
    PDS X (bs X CR E W) (.Assign [.Name y py] (.ListComp elt [⟨tg, iter, ifs, 0⟩] scope pos) spos) (dSet i (dLc it gd tt te (own.map (·.2)))) :=
  (ps_setLc hc hN hy hyl hsw hi (blkOk_by ok) hg ht he hs).imp (setlcE (lcE hcg mono (F := fun acc M Q => Q (.lst acc) M) fin_lst))
theorem s_setLcR {i : Nat} {y : Str} {py spos : Pos} {elt tg iter : Expr} {ifs : List Expr} {scope : Scope} {own : List (Str × Nat)} {it : DI} {g : TG} {gd : DG} {tt : DT} {te : DE} (hc : X.calm = true) (hN : X.N.Nodup) (hi : PDI X (bs X CR E W) tg iter it) (ok : blkC X.N X.env.scope scope own = true)
    (hcg : CG X.K CR (own.map (·.2)) g gd) (mono : ∀ v σ H (Q Q' : L2.St → Hp → Prop), (∀ σ H, Q σ H → Q' σ H) → g v σ H Q → g v σ H Q')
    (hg : ∀ (s : Shared) (H : Hp) (C : Addr) (cl : List (Str × Addr)) (fp : List Addr), PG (X.blk s H scope (compEnvC scope cl C X.env) fp) tg g) (ht : ∀ (s : Shared) (H : Hp) (C : Addr) (cl : List (Str × Addr)) (fp : List Addr), PDTs (X.blk s H scope (compEnvC scope cl C X.env) fp) (bs X CR noE noW) ifs tt)
    (he : ∀ (s : Shared) (H : Hp) (C : Addr) (cl : List (Str × Addr)) (fp : List Addr), PD (X.blk s H scope (compEnvC scope cl C X.env) fp) (bs X CR noE noW) elt te) (hsw : swapsWith (.ListComp elt [⟨tg, iter, ifs, 0⟩] scope pos) (some (.Name y py)) spos.line X.env = pure true) (hy : X.N[i]? = some y := by rfl) (hyl : X.env.scope.names.lookup y = some .local := by rfl) (hs : ∀ x, foldedSetIterable iter X.env x = pure x := by intro _; rfl) :
    PDS X (bs X CR E W) (.Assign [.Name y py] (.ListComp elt [⟨tg, iter, ifs, 0⟩] scope pos) spos) (dSet i (dLcR it gd tt te (own.map (·.2)))) :=
  (ps_setLc hc hN hy hyl hsw hi (blkOk_by ok) hg ht he hs).imp (setlcE (lcE hcg mono (F := fun acc M Q => ∀ p, M p = none → Q (.ref p) (mput M p (.lst acc))) fin_ref))
end
/-! ### operators on data -/
def rI2 (C : Int → Int → Prop) (g : Int → Int → D) : D2 := fun a b M Q => match a, b with
  | .int i, .int j => C i j ∧ Q (g i j) M
  | _, _ => False
section
variable {X : Cx} {CR : Addr}
theorem lf_int {O : Own} {H M} {Q : DK} {i : Int} (g : Good O H M) (q : Q (.int i) M) : LfV O H M Q (.int i) H := LfV.here (d := .int i) g rfl q
theorem lf_bl {O : Own} {H M} {Q : DK} {b : Bool} (g : Good O H M) (q : Q (.bl b) M) : LfV O H M Q (.bl b) H := LfV.here (d := .bl b) g rfl q
theorem lf_str {O : Own} {H M} {Q : DK} {x : Str} (g : Good O H M) (q : Q (.str x) M) : LfV O H M Q (.str x) H := LfV.here (d := .str x) g rfl q
theorem lf_non {O : Own} {H M} {Q : DK} (g : Good O H M) (q : Q .non M) : LfV O H M Q .non H := LfV.here (d := .non) g rfl q
theorem ops_int {f : Value → Value → Sem Value} {C : Int → Int → Prop} {g : Int → Int → Int} (h : OpR X f (rI C fun i j => .int (g i j))) : OpR X f (l2 X.K CR (rI2 C fun i j => .int (g i j))) := h.imp fun x y H Q hh => by
  obtain ⟨P, a, b, M, Qd, ra, rb, gd, r, k⟩ := hh
  cases a with
  | int i => cases b with
    | int j => exact ⟨i, j, ra, rb, r.1, k _ _ (lf_int gd r.2)⟩
    | _ => exact (show False from r).elim
  | _ => exact (show False from r).elim
theorem ops_int0 {f : Value → Value → Sem Value} {g : Int → Int → Int} (h : OpR X f (rI0 fun i j => .int (g i j))) : OpR X f (l2 X.K CR (rI2 (fun _ _ => True) fun i j => .int (g i j))) := h.imp fun x y H Q hh => by
  obtain ⟨P, a, b, M, Qd, ra, rb, gd, r, k⟩ := hh
  cases a with
  | int i => cases b with
    | int j => exact ⟨i, j, ra, rb, k _ _ (lf_int gd r.2)⟩
    | _ => exact (show False from r).elim
  | _ => exact (show False from r).elim
theorem ops_cmp {f : Value → Value → Sem Value} {g : Int → Int → Bool} (h : OpR X f (rI0 fun i j => .bl (g i j))) : OpR X f (l2 X.K CR (rI2 (fun _ _ => True) fun i j => .bl (g i j))) := h.imp fun x y H Q hh => by
  obtain ⟨P, a, b, M, Qd, ra, rb, gd, r, k⟩ := hh
  cases a with
  | int i => cases b with
    | int j => exact ⟨i, j, ra, rb, k _ _ (lf_bl gd r.2)⟩
    | _ => exact (show False from r).elim
  | _ => exact (show False from r).elim
def CFd (_ j : Int) : Prop := j ≠ 0 ∧ j.natAbs.log2 < 9000
def rSubI : D2 := rI2 (fun _ _ => True) fun i j => .int (i - j)
def rMod : D2 := rI2 (fun _ j => j ≠ 0) fun i j => .int (i.fmod j)
def rFdiv : D2 := rI2 CFd fun i j => .int (i.fdiv j)
def rPow : D2 := rI2 CPow fun i j => .int (i ^ j.toNat)
def rMulI : D2 := rI2 IntMulOk fun i j => .int (i * j)
theorem op_mulX : OpR X (binaryOp .Mult) (rI IntMulOk fun i j => .int (i * j)) := opI fun _ _ _ _ _ _ _ hc q => mul_int q hc
def rLt : D2 := rI2 (fun _ _ => True) fun i j => .bl (decide (i < j))
def rLe : D2 := rI2 (fun _ _ => True) fun i j => .bl (decide (i ≤ j))
def rGt : D2 := rI2 (fun _ _ => True) fun i j => .bl (decide (j < i))
def rGe : D2 := rI2 (fun _ _ => True) fun i j => .bl (decide (j ≤ i))
theorem o_subI : OpR X (binaryOp .Sub) (l2 X.K CR rSubI) := ops_int0 op_sub
theorem o_mod : OpR X (binaryOp .Mod) (l2 X.K CR rMod) := ops_int op_modN
theorem o_mulI : OpR X (binaryOp .Mult) (l2 X.K CR rMulI) := ops_int op_mulX
theorem o_pow : OpR X (binaryOp .Pow) (l2 X.K CR rPow) := ops_int op_pow
theorem op_fdX : OpR X (binaryOp .FloorDiv) (rI CFd fun i j => .int (i.fdiv j)) := opI fun _ _ _ _ _ _ _ hc q => floordiv_int hc.1 q (.inl (PyProof.noPylong_of_log2 hc.2))
theorem o_fdiv : OpR X (binaryOp .FloorDiv) (l2 X.K CR rFdiv) := ops_int op_fdX
theorem o_lt : OpR X (compareOp .Lt) (l2 X.K CR rLt) := ops_cmp op_lt
theorem o_le : OpR X (compareOp .LtE) (l2 X.K CR rLe) := ops_cmp op_le
theorem o_gt : OpR X (compareOp .Gt) (l2 X.K CR rGt) := ops_cmp op_gt
theorem o_ge : OpR X (compareOp .GtE) (l2 X.K CR rGe) := ops_cmp op_ge
def rNeg : D1 := fun a M Q => match a with
  | .int i => Q (.int (-i)) M
  | _ => False
theorem o_negI : UnR X (unaryOp .USub) (l1 X.K CR rNeg) := un_neg.imp fun x H Q hh => by
  obtain ⟨P, a, M, Qd, ra, gd, r, k⟩ := hh
  cases a with
  | int i => exact ⟨i, ra, k _ _ (lf_int gd r)⟩
  | _ => exact (show False from r).elim
/-- + of tuples, not empty ones: a new tuple, known to the last -/
def rCatZ (K : PySem.W.Frag) : R2 := fun x y H Q => ∃ a b xs ys, x = .ref a ∧ y = .ref b ∧ SqT K H a xs ∧ SqT K H b ys ∧ xs ≠ [] ∧ xs.length + ys.length ≤ sizeLine ∧ (ys = [] → Q (.ref a) H) ∧ (ys ≠ [] → ∀ p o, H p = none → TupO o → Q (.ref p) (upd H p (.frz o (.tup (xs ++ ys)))))
theorem op_catZ : OpR X (binaryOp .Add) (rCatZ X.K) := by
  intro pins s σ H x y v u Q I rx ry h
  obtain ⟨a, b, xs, ys, rfl, rfl, ha, hb, hx, hz, q1, q2⟩ := h
  cases rx
  cases ry
  obtain ⟨its, r1, p1, _⟩ := I.tuple ha
  obtain ⟨its2, r2, p2, _⟩ := I.tuple hb
  refine HT.cat_tup p1 p2 (fun z => hx (r1.nil_iff.mp z)) (fun z => ⟨.ref a, H, I, rfl, q1 (r2.nil_iff.mp z)⟩) (fun z => ?_) (by rw [← r1.length, ← r2.length]; exact hz)
  refine ⟨.ref s.heap.objs.size, _, I.laid (t' := s.toks) (o := .frz _ (.tup (xs ++ ys))) (fun b ob q => Heap.get?_push_of_some _ q) (Nat.le_refl _) ?_, rfl, q2 (fun w => z (r2.nil_iff.mpr w)) _ _ (I.hok.fresh (Nat.le_refl _)) (show TupO { cls := .type "tuple", data := .seq (its ++ its2).toArray } from rfl)⟩
  refine ⟨?_, by rw [List.length_append]; exact hz, _, r1.append r2, IsTup.new _ _⟩
  first | exact Heap.get?_push_size _ rfl | exact Heap.get?_push_size _ (by simp)
def rAddP : D2 := fun a b M Q => match a, b with
  | .int i, .int j => Q (.int (i + j)) M
  | .str x, .str y => x.length + y.length ≤ sizeLine ∧ Q (.str (x ++ y)) M
  | .lst xs, .lst ys => xs.length + ys.length ≤ sizeLine ∧ Q (.lst (xs ++ ys)) M
  | .tup xs, .tup ys => xs ≠ [] ∧ xs.length + ys.length ≤ sizeLine ∧ Q (.tup (xs ++ ys)) M
  | _, _ => False
theorem reps_nil_iff {O : Own} {H M} {ds : List D} {vs : List V} (h : Reps O H M ds vs) : vs = [] ↔ ds = [] := by
  have e := h.length
  cases ds <;> cases vs <;> simp_all
theorem o_addP : OpR X (binaryOp .Add) (l2 X.K CR rAddP) := (op_add.or (op_add_str.or (op_cat.or op_catZ))).imp fun x y H Q hh => by
  obtain ⟨P, a, b, M, Qd, ra, rb, gd, r, k⟩ := hh
  cases a with
  | int i => cases b with
    | int j => exact .inl ⟨i, j, ra, rb, k _ _ (lf_int gd r)⟩
    | _ => exact (show False from r).elim
  | str i => cases b with
    | str j => exact .inr (.inl ⟨i, j, ra, rb, r.1, k _ _ (lf_str gd r.2)⟩)
    | _ => exact (show False from r).elim
  | lst xs => cases b with
    | lst ys =>
      obtain ⟨p, vs, rfl, f, rs⟩ := ra
      obtain ⟨q, ws, rfl, f2, rs2⟩ := rb
      exact .inr (.inr (.inl ⟨p, q, vs, ws, rfl, rfl, f.2, f2.2, by rw [← rs.length, ← rs2.length]; exact r.1, fun u hu => k _ _ (newL gd hu (rs.append rs2) r.2)⟩))
    | _ => exact (show False from r).elim
  | tup xs => cases b with
    | tup ys =>
      have rb' := rb
      obtain ⟨p, vs, rfl, f, rs⟩ := ra
      obtain ⟨q, ws, rfl, f2, rs2⟩ := rb
      obtain ⟨h1, h2, h3⟩ := (show xs ≠ [] ∧ xs.length + ys.length ≤ sizeLine ∧ Qd (.tup (xs ++ ys)) M from r)
      refine .inr (.inr (.inr ⟨p, q, vs, ws, rfl, rfl, f.sq, f2.sq, fun e => h1 ((reps_nil_iff rs).mp e), by rw [← rs.length, ← rs2.length]; exact h2, fun e => ?_, fun _ u o hu t => k _ _ (newT gd hu t (rs.append rs2) h3)⟩))
      have e2 := (reps_nil_iff rs2).mp e
      subst e2
      rw [List.append_nil] at h3
      exact k _ _ (LfV.here (d := .tup xs) gd ⟨p, vs, rfl, f, rs⟩ h3)
    | _ => exact (show False from r).elim
  | _ => exact (show False from r).elim
/-! ### equality of plain data -/
mutual
/-- None, ints, texts, tuples, lists of such, n deep -/
def plD : D → Nat → Bool
  | .non, _ => true
  | .int _, _ => true
  | .str x, _ => PyData.strOk x
  | .tup xs, n + 1 => plDs xs n
  | .lst xs, n + 1 => plDs xs n
  | _, _ => false
def plDs : List D → Nat → Bool
  | [], _ => true
  | d :: ds, n => plD d n && plDs ds n
end
mutual
def datD : D → PyData
  | .int i => .int i
  | .str x => .str x
  | .tup xs => .tuple (datDs xs)
  | .lst xs => .list (datDs xs)
  | _ => .none
def datDs : List D → List PyData
  | [] => []
  | d :: ds => datD d :: datDs ds
end
mutual
theorem can_of : ∀ {d : D} {n : Nat}, plD d n = true → (datD d).canLay0 = true ∧ (datD d).depth ≤ n
  | .non, n, _ => ⟨by simp [datD, PyData.canLay0], by simp [datD, PyData.depth]⟩
  | .int i, n, _ => ⟨by simp [datD, PyData.canLay0], by simp [datD, PyData.depth]⟩
  | .str x, n, h => ⟨by simpa [datD, PyData.canLay0, plD] using h, by simp [datD, PyData.depth]⟩
  | .tup xs, n + 1, h => by
    have := cans_of (ds := xs) (n := n) h
    exact ⟨by simpa [datD, PyData.canLay0] using this.1, by simpa [datD, PyData.depth] using this.2⟩
  | .lst xs, n + 1, h => by
    have := cans_of (ds := xs) (n := n) h
    exact ⟨by simpa [datD, PyData.canLay0] using this.1, by simpa [datD, PyData.depth] using this.2⟩
theorem cans_of : ∀ {ds : List D} {n : Nat}, plDs ds n = true → PyData.canLayAll0 (datDs ds) = true ∧ PyData.depthAll (datDs ds) ≤ n
  | [], n, _ => ⟨by simp [datDs, PyData.canLayAll0], by simp [datDs, PyData.depthAll]⟩
  | d :: ds, n, h => by
    obtain ⟨h1, h2⟩ := Bool.and_eq_true_iff.mp h
    have a := can_of h1
    have b := cans_of h2
    exact ⟨by simp [datDs, PyData.canLayAll0, a.1, b.1], by simp [datDs, PyData.depthAll]; omega⟩
end
theorem shaped_of {d : D} (h : plD d 8 = true) : SeqAt.shaped (datD d) = true := by
  have := can_of h
  unfold SeqAt.shaped
  rw [this.1, decide_eq_true (by omega)]
  rfl
section
variable {O : Own} {H : Hp} {M : Mem}
mutual
theorem dp_of : ∀ {d : D} {n : Nat} {v : V}, plD d n = true → Rep O H M d v → Dp O.K H v (datD d)
  | .non, _, _, _, r => by rw [show _ = V.non from r]; exact .non
  | .int i, _, _, _, r => by rw [show _ = V.int i from r]; exact .int i
  | .str x, _, _, _, r => by rw [show _ = V.str x from r]; exact .str x
  | .tup xs, n + 1, _, h, r => by
    obtain ⟨a, vs, rfl, f, rs⟩ := r
    exact .tup f.sq (dps_of (n := n) h rs)
  | .lst xs, n + 1, _, h, r => by
    obtain ⟨a, vs, rfl, f, rs⟩ := r
    exact .lst f.sq (dps_of (n := n) h rs)
theorem dps_of : ∀ {ds : List D} {n : Nat} {vs : List V}, plDs ds n = true → Reps O H M ds vs → DpAll O.K H vs (datDs ds)
  | [], _, _, _, r => by rw [show _ = [] from r]; exact .nil
  | d :: ds, n, _, h, r => by
    obtain ⟨v, vs, rfl, r1, r2⟩ := r
    obtain ⟨h1, h2⟩ := Bool.and_eq_true_iff.mp h
    exact .cons (dp_of h1 r1) (dps_of h2 r2)
end
end
mutual
theorem eqv_iff : ∀ {d e : D} {n m : Nat}, plD d n = true → plD e m = true → ((datD d).eqv (datD e) = true ↔ d = e)
  | .non, e, _, m, _, h => by cases e <;> simp_all [datD, PyData.eqv, plD]
  | .int i, e, _, m, _, h => by cases e <;> simp_all [datD, PyData.eqv, plD]
  | .str i, e, _, m, _, h => by cases e <;> simp_all [datD, PyData.eqv, plD]
  | .tup xs, e, n + 1, m, h', h => by
    cases e with
    | tup ys => cases m with
      | zero => cases h
      | succ m =>
        have := eqvs_iff (ds := xs) (es := ys) (n := n) (m := m) h' h
        simpa [datD, PyData.eqv] using this
    | _ => simp_all [datD, PyData.eqv, plD]
  | .lst xs, e, n + 1, m, h', h => by
    cases e with
    | lst ys => cases m with
      | zero => cases h
      | succ m =>
        have := eqvs_iff (ds := xs) (es := ys) (n := n) (m := m) h' h
        simpa [datD, PyData.eqv] using this
    | _ => simp_all [datD, PyData.eqv, plD]
theorem eqvs_iff : ∀ {ds es : List D} {n m : Nat}, plDs ds n = true → plDs es m = true → (PyData.eqvAll (datDs ds) (datDs es) = true ↔ ds = es)
  | [], [], _, _, _, _ => by simp [datDs, PyData.eqvAll]
  | [], _ :: _, _, _, _, _ => by simp [datDs, PyData.eqvAll]
  | _ :: _, [], _, _, _, _ => by simp [datDs, PyData.eqvAll]
  | d :: ds, e :: es, n, m, h, h' => by
    obtain ⟨h1, h2⟩ := Bool.and_eq_true_iff.mp h
    obtain ⟨h3, h4⟩ := Bool.and_eq_true_iff.mp h'
    have a := eqv_iff h1 h3
    have b := eqvs_iff h2 h4
    simp [datDs, PyData.eqvAll, a, b]
end
section
variable {X : Cx} {CR : Addr}
/-- == : plain data; two truth values -/
def rEqP : D2 := fun a b M Q => (plD a 8 = true ∧ plD b 8 = true ∧ ∀ k : Bool, (k = true ↔ a = b) → Q (.bl k) M) ∨ ∃ x y, a = .bl x ∧ b = .bl y ∧ Q (.bl (x == y)) M
def rNeP : D2 := fun a b M Q => (plD a 8 = true ∧ plD b 8 = true ∧ ∀ k : Bool, (k = true ↔ a ≠ b) → Q (.bl k) M) ∨ ∃ x y, a = .bl x ∧ b = .bl y ∧ Q (.bl (x != y)) M
theorem o_eqP (hu : X.A.units + 64 < cLine) : OpR X (compareOp .Eq) (l2 X.K CR rEqP) := ((op_eqD hu).or op_eq).imp fun x y H Q hh => by
  obtain ⟨P, a, b, M, Qd, ra, rb, gd, r, k⟩ := hh
  rcases r with ⟨p1, p2, q⟩ | ⟨b1, b2, rfl, rfl, q⟩
  · exact .inl ⟨_, _, dp_of p1 ra, dp_of p2 rb, shaped_of p1, shaped_of p2, k _ _ (lf_bl gd (q _ (eqv_iff p1 p2)))⟩
  · rw [show x = .bl b1 from ra, show y = .bl b2 from rb]
    refine .inr ⟨rfl, ?_⟩
    rw [dec_bl]
    exact k _ _ (lf_bl gd q)
theorem o_neP (hu : X.A.units + 64 < cLine) : OpR X (compareOp .NotEq) (l2 X.K CR rNeP) := ((op_neD hu).or op_ne).imp fun x y H Q hh => by
  obtain ⟨P, a, b, M, Qd, ra, rb, gd, r, k⟩ := hh
  rcases r with ⟨p1, p2, q⟩ | ⟨b1, b2, rfl, rfl, q⟩
  · refine .inl ⟨_, _, dp_of p1 ra, dp_of p2 rb, shaped_of p1, shaped_of p2, k _ _ (lf_bl gd (q _ ?_))⟩
    have := eqv_iff p1 p2
    rw [Bool.not_eq_true', ← Bool.not_eq_true, this]
  · rw [show x = .bl b1 from ra, show y = .bl b2 from rb]
    refine .inr ⟨rfl, ?_⟩
    rw [dec_bl]
    exact k _ _ (lf_bl gd q)
/-! ### is None -/
def isNonD : D → Bool
  | .non => true
  | _ => false
theorem isNon_of {O : Own} {H M} {d : D} {v : V} (r : Rep O H M d v) : decide (v = .non) = isNonD d := by
  cases d with
  | non => rw [show v = .non from r]; rfl
  | bl b => rw [show v = .bl b from r]; rfl
  | int b => rw [show v = .int b from r]; rfl
  | str b => rw [show v = .str b from r]; rfl
  | ref b => rw [show v = .ref b from r]; rfl
  | ty b => rw [show v = .ty b from r]; rfl
  | rat q => obtain ⟨a, _, rfl, _⟩ := r; rfl
  | tup q => obtain ⟨a, _, rfl, _⟩ := r; rfl
  | prs q => obtain ⟨a, _, rfl, _⟩ := r; rfl
  | lst q => obtain ⟨a, _, rfl, _⟩ := r; rfl
  | scr q => obtain ⟨a, _, rfl, _⟩ := r; rfl
  | obj C ns q => obtain ⟨a, _, _, rfl, _⟩ := r; rfl
def rIsN : D2 := fun a b M Q => b = .non ∧ Q (.bl (isNonD a)) M
def rNotN : D2 := fun a b M Q => b = .non ∧ Q (.bl (!isNonD a)) M
theorem o_isN : OpR X (compareOp .Is) (l2 X.K CR rIsN) := op_isN.imp fun x y H Q hh => by
  obtain ⟨P, a, b, M, Qd, ra, rb, gd, ⟨rfl, r⟩, k⟩ := hh
  refine ⟨rb, ?_⟩
  rw [isNon_of ra]
  exact k _ _ (lf_bl gd r)
theorem o_notN : OpR X (compareOp .IsNot) (l2 X.K CR rNotN) := op_notN.imp fun x y H Q hh => by
  obtain ⟨P, a, b, M, Qd, ra, rb, gd, ⟨rfl, r⟩, k⟩ := hh
  refine ⟨rb, ?_⟩
  rw [isNon_of ra]
  exact k _ _ (lf_bl gd r)
/-! ### in -/
/-- one sign in a text -/
def rInS (neg : Bool) : D2 := fun a b M Q => ∃ (c : Nat) (z : Str), a = .str ⟨#[c]⟩ ∧ b = .str z ∧ Q (.bl (if neg then !decide (c ∈ z.cps.toList) else decide (c ∈ z.cps.toList))) M
theorem o_inS : OpR X (compareOp .In) (l2 X.K CR (rInS false)) := op_in_sign.imp fun x y H Q hh => by
  obtain ⟨P, a, b, M, Qd, ra, rb, gd, ⟨c, z, rfl, rfl, q⟩, k⟩ := hh
  exact ⟨c, z, ra, rb, k _ _ (lf_bl gd q)⟩
theorem o_notInS : OpR X (compareOp .NotIn) (l2 X.K CR (rInS true)) := op_notIn_sign.imp fun x y H Q hh => by
  obtain ⟨P, a, b, M, Qd, ra, rb, gd, ⟨c, z, rfl, rfl, q⟩, k⟩ := hh
  exact ⟨c, z, ra, rb, k _ _ (lf_bl gd q)⟩
/-! ### places -/
/-- x[i] -/
def rIxD : D2 := fun a b M Q => ∃ i, b = .int i ∧ match a with
  | .tup xs => ∃ d, atI xs i = some d ∧ Q d M
  | .lst xs => ∃ d, atI xs i = some d ∧ Q d M
  | .scr xs => ∃ d, atI xs i = some d ∧ Q d M
  | .ref p => ∃ xs d, M p = some (.lst xs) ∧ atI xs i = some d ∧ Q d M
  | .str z => z.length ≤ sizeLine ∧ ∃ c, atI z.cps.toList i = some c ∧ Q (.str ⟨#[c]⟩) M
  | _ => False
theorem Reps.atI {O : Own} {H M} {ds : List D} {vs : List V} {i : Int} {d : D} (h : Reps O H M ds vs) (e : L2.atI ds i = some d) : ∃ v, L2.atI vs i = some v ∧ Rep O H M d v := by
  unfold L2.atI at e ⊢
  rw [← h.length]
  cases q : ixN ds.length i with
  | none => rw [q] at e; cases e
  | some j =>
    rw [q] at e
    exact h.get (i := j) e
theorem _root_.L2.IxR.imp {X : Cx} {r r' : R2} (h : IxR X r) (i : ∀ x y H Q, r' x y H Q → r x y H Q) : IxR X r' := by
  intro a1 a2 a3 a4 a5 a6 a7 a8 a9 a10 a11 a12 a13 a14 q
  exact h a1 a2 a3 a4 a5 a6 a7 a8 a9 a10 a11 a12 a13 a14 (i _ _ _ _ q)
theorem x_ix : IxR X (l2 X.K CR rIxD) := ix_seq.imp fun x y H Q hh => (by
  obtain ⟨P, a, b, M, Qd, ra, rb, gd, ⟨i, rfl, r⟩, k⟩ := hh
  cases a with
  | tup xs =>
    obtain ⟨p, vs, rfl, f, rs⟩ := ra
    obtain ⟨d, e, q⟩ := r
    obtain ⟨v, e1, r1⟩ := rs.atI e
    exact .inr (.inl ⟨p, vs, i, v, rfl, rb, f.sq, e1, k _ _ (LfV.here gd r1 q)⟩)
  | lst xs =>
    obtain ⟨p, vs, rfl, f, rs⟩ := ra
    obtain ⟨d, e, q⟩ := r
    obtain ⟨v, e1, r1⟩ := rs.atI e
    exact .inl ⟨p, vs, i, v, rfl, rb, f.sq, e1, k _ _ (LfV.here gd r1 q)⟩
  | scr xs =>
    obtain ⟨p, vs, rfl, f, rs⟩ := ra
    obtain ⟨d, e, q⟩ := r
    obtain ⟨v, e1, r1⟩ := rs.atI e
    exact .inl ⟨p, vs, i, v, rfl, rb, f.sq, e1, k _ _ (LfV.here gd r1 q)⟩
  | ref p =>
    obtain ⟨xs, d, em, e, q⟩ := r
    obtain ⟨vs, eh, rs⟩ := gd.at_ p _ em
    obtain ⟨v, e1, r1⟩ := rs.atI e
    exact .inl ⟨p, vs, i, v, ra, rb, .of eh, e1, k _ _ (LfV.here gd r1 q)⟩
  | str z =>
    obtain ⟨hz, c, e, q⟩ := r
    exact .inr (.inr ⟨z, i, c, ra, rb, hz, e, k _ _ (lf_str gd q)⟩)
  | _ => exact (show False from r).elim)
variable {E : DXS} {W : WX} {a b : Expr} {wa wb : DE} {pos : Pos}
theorem d_ix (ha : PD X (bs X CR E W) a wa) (hb : PD X (bs X CR E W) b wb) (hs : PlainIx b := by exact fun _ _ => rfl) : PD X (bs X CR E W) (.Subscript a b pos) (dOp rIxD wa wb) := (pe_ix x_ix ha hb hs).imp op_ok
/-! ### len, int, abs -/
def lenD (d : D) (M : Mem) (n : Nat) : Prop := match d with
  | .tup xs => n = xs.length
  | .lst xs => n = xs.length
  | .scr xs => n = xs.length
  | .str z => z.length ≤ sizeLine ∧ n = z.length
  | .ref p => ∃ xs, M p = some (.lst xs) ∧ n = xs.length
  | _ => False
def rLen : DC := fun ds M Q => ∃ d n, ds = [d] ∧ lenD d M n ∧ Q (.int (n : Int)) M
theorem c_len : CallR X (.builtin "len") (lC X.K CR rLen) := call_len.imp fun xs H Q hh => by
  obtain ⟨P, ds, M, Qd, rs, gd, ⟨d, n, rfl, l, q⟩, k⟩ := hh
  obtain ⟨v, r, rfl, r1, r2⟩ := rs
  rw [show r = [] from r2]
  refine ⟨v, n, rfl, ?_, k _ _ (lf_int gd q)⟩
  cases d with
  | tup xs => obtain ⟨p, vs, rfl, f, rs⟩ := r1; exact .inr ⟨vs, f.sq, by rw [← rs.length]; exact l⟩
  | lst xs => obtain ⟨p, vs, rfl, f, rs⟩ := r1; exact .inl ⟨vs, f.sq, by rw [← rs.length]; exact l⟩
  | scr xs => obtain ⟨p, vs, rfl, f, rs⟩ := r1; exact .inl ⟨vs, f.sq, by rw [← rs.length]; exact l⟩
  | str z => rw [show v = .str z from r1]; exact l
  | ref p =>
    obtain ⟨xs, e, l⟩ := l
    obtain ⟨vs, eh, rs⟩ := gd.at_ p _ e
    rw [show v = .ref p from r1]
    exact .inl ⟨vs, .of eh, by rw [← rs.length]; exact l⟩
  | _ => exact (show False from l).elim
def rInt : DC := fun ds M Q => (∃ i, ds = [.int i] ∧ Q (.int i) M) ∨ ∃ b, ds = [.bl b] ∧ Q (.int (if b then 1 else 0)) M
theorem c_int : CallR X (.type "int") (lC X.K CR rInt) := call_int1.imp fun xs H Q hh => by
  obtain ⟨P, ds, M, Qd, rs, gd, r, k⟩ := hh
  rcases r with ⟨i, rfl, q⟩ | ⟨i, rfl, q⟩
  · obtain ⟨v, r, rfl, r1, r2⟩ := rs
    rw [show r = [] from r2, show v = _ from r1]
    exact .inl ⟨i, rfl, k _ _ (lf_int gd q)⟩
  · obtain ⟨v, r, rfl, r1, r2⟩ := rs
    rw [show r = [] from r2, show v = _ from r1]
    exact .inr ⟨i, rfl, k _ _ (lf_int gd q)⟩
def rAbsI : DC := fun ds M Q => ∃ i, ds = [.int i] ∧ Q (.int (if i < 0 then -i else i)) M
theorem c_absI : CallR X (.builtin "abs") (lC X.K CR rAbsI) := call_abs.imp fun xs H Q hh => by
  obtain ⟨P, ds, M, Qd, rs, gd, ⟨i, rfl, q⟩, k⟩ := hh
  obtain ⟨v, r, rfl, r1, r2⟩ := rs
  rw [show r = [] from r2, show v = _ from r1]
  exact ⟨i, rfl, k _ _ (lf_int gd q)⟩
/-! ### list.append of a list of the memory -/
def dBM0 (r : D → List D → Mem → DK → Prop) (w : DE) (t : DA) : DE := fun δ M Q => w δ M fun o M1 => t δ M1 fun ds M2 => r o ds M2 Q
def rApp : D → List D → Mem → DK → Prop := fun o ds M Q => ∃ p xs y, o = .ref p ∧ ds = [y] ∧ M p = some (.lst xs) ∧ xs.length < sizeLine ∧ Q .non (mput M p (.lst (xs ++ [y])))
/-- what the receiver is, ahead of the arguments -/
def isLstD (o : D) (M : Mem) : Prop := ∃ p xs, o = .ref p ∧ M p = some (.lst xs)
def dApp (w : DE) (t : DA) : DE := fun δ M Q => w δ M fun o M1 => isLstD o M1 ∧ t δ M1 fun ds M2 => rApp o ds M2 Q
theorem d_app {e : Expr} {w : DE} {t : DA} (h : PE X e (tBM X.K "list" rAppend (lE (bs X CR E W) w) (lA (bs X CR E W) t))) : PD X (bs X CR E W) e (dApp w t) := by
  refine h.imp fun σ H Q h => ?_
  obtain ⟨P, δ, M, Qd, hS, g, x, w, k⟩ := h
  refine ⟨P, δ, M, _, hS, g, x, w, fun v H1 ⟨d, M1, z1, g1, r1, ⟨p, xs, ed, em⟩, q⟩ => ?_⟩
  subst ed
  obtain ⟨vs, eh, rs⟩ := g1.at_ p _ em
  rw [show v = .ref p from r1]
  refine ⟨.inl ⟨rfl, vs, .of eh⟩, P, δ, M1, _, hS.mono z1, g1, x.trans z1, q, fun us H2 ds M2 z2 g2 rs2 q2 => ?_⟩
  obtain ⟨p', xs', y, ep, rfl, em', hz, q3⟩ := q2
  cases ep
  obtain ⟨vs', eh', rs'⟩ := g2.at_ p _ em'
  obtain ⟨u, r, rfl, r1', r2⟩ := rs2
  have z3 : Fz ⟨X.K, CR, P⟩ H2 M2 (upd H2 p (.lst (vs' ++ [u]))) (mput M2 p (.lst (xs' ++ [y]))) := fz_put g2 em'
  refine ⟨p, vs', u, rfl, by rw [show r = [] from r2], eh', by rw [← rs'.length]; exact hz, ?_⟩
  exact k _ _ ⟨.non, _, (z1.trans z2).trans z3, good_put g2 (g2.noP em') z3 (show RepO _ _ _ p (.lst _) from ⟨_, upd_same, (rs'.append (Reps.one r1')).mono z3⟩), rfl, q3⟩
end
end
/-! ### promises over data -/
abbrev DSp := List D → Mem → DK → DX → Prop
abbrev noX : DX := fun _ _ _ _ => False
def lSp (K : PySem.W.Frag) (CR : Addr) (sp : DSp) : Sp := fun vs H Q E => ∃ P ds M Qd Ed, Reps ⟨K, CR, P⟩ H M ds vs ∧ Good ⟨K, CR, P⟩ H M ∧ sp ds M Qd Ed ∧ (∀ v H', LfV ⟨K, CR, P⟩ H M Qd v H' → Q v H') ∧ ∀ c d H', LfX ⟨K, CR, P⟩ H M Ed c d H' → E c d H'
theorem LfX.no {O : Own} {H M c d H'} (h : LfX O H M noX c d H') : False := let ⟨_, _, _, _, _, _, _, _, q⟩ := h; q
theorem LfX.trans {O : Own} {H M H1 M1 E c d H'} (z : Fz O H M H1 M1) (h : LfX O H1 M1 E c d H') : LfX O H M E c d H' := let ⟨C, ns, fs, M', e, z', r⟩ := h; ⟨C, ns, fs, M', e, z.trans z', r⟩
/-- a call that raises nothing -/
def dCall (sp : DSp) (t : DA) : DE := fun δ M Q => t δ M fun ds M1 => sp ds M1 Q noX
/-- with defaults behind -/
def dCallD (sp : DSp) (dd : List D) (t : DA) : DE := fun δ M Q => t δ M fun ds M1 => sp (ds ++ dd) M1 Q noX
/-- a call that may raise what Ed wishes -/
def dCallX (sp : DSp) (Ed : DXS) (t : DA) : DE := fun δ M Q => t δ M fun ds M1 => sp ds M1 Q fun C ns fs M' => Ed C ns fs δ M'
/-- a def of the text keeps its promise -/
structure Def (P : Program) (w : World) (K : PySem.W.Frag) (mg : Str → Option Value) (base : Heap) (CR : Addr) (k : Nat) (x : Str) (ps : List Str) (sp : DSp) : Prop where
  ex : ∃ f fd, FnOk P w K mg base (L2.CX P w) k f fd ps (lSp K CR sp) ∧ mg x = some (.ref f) ∧ PySem.W.keepIn K (.ref f) = true ∧ Binds K fd ps []
section
variable {X : Cx} {CR : Addr} {E : DXS} {W : WX} {pos : Pos} {k : Nat} {x : Str} {ps : List Str} {sp : DSp} {e : Expr} {es : List Expr} {t : DA} {p : Pos}
theorem d_call (F : Def X.prog X.w X.K X.mg X.base CR k x ps sp) (hr : Room k X.A) (ha : PDA X (bs X CR E W) (e :: es) t) (hg : Gl X x := by rfl)
    (hdb : (x == ("__debug__" : Str)) = false := by decide) (he : starEach (e :: es) X.env = (false, eval e X.env) :: starEach es X.env := by rfl) (hpl : (backTo pos (starEach es X.env)).any (·.1) = false := by rfl) : PD X (bs X CR E W) (.Call (.Name x p) (e :: es) [] pos) (dCall sp t) := by
  obtain ⟨f, fd, F, hm, hk, hb⟩ := F.ex
  refine (pe_call F hr hg hm hk hb .nil passL ha hdb he hpl).imp fun σ H Q h => ?_
  obtain ⟨P, δ, M, Qd, hS, g, x, w, k⟩ := h
  refine ⟨P, δ, M, _, hS, g, x, w, fun vs H1 ds M1 z1 g1 rs q => ?_⟩
  show lSp X.K CR sp (vs ++ []) H1 Q E0
  rw [List.append_nil]
  exact ⟨P, ds, M1, Qd, noX, rs, g1, q, fun v H' l => k v H' (l.trans z1), fun c d H' l => l.no⟩
theorem d_call0 (F : Def X.prog X.w X.K X.mg X.base CR k x ps sp) (hr : Room k X.A) (hg : Gl X x := by rfl) (hdb : (x == ("__debug__" : Str)) = false := by decide) : PD X (bs X CR E W) (.Call (.Name x p) [] [] pos) (dCall sp dNil) := by
  obtain ⟨f, fd, F, hm, hk, hb⟩ := F.ex
  refine (pe_call0 F hr hg hm hk hb .nil passL hdb).imp fun σ H Q h => ?_
  obtain ⟨P, δ, M, Qd, hS, g, x, w, k⟩ := h
  exact ⟨P, [], M, Qd, noX, rfl, g, w, k, fun c d H' l => l.no⟩
end
/-- the names' values at the entry -/
def startD (n : Nat) (ds : List D) : DS0 := ds.map some ++ List.replicate (n - ds.length) none
theorem reps_start {O : Own} {H M} {ds : List D} {vs : List V} {N : List Str} (r : Reps O H M ds vs) : RepS O H M (startD N.length ds) (L2.start N vs) := by
  refine ⟨by unfold startD L2.start; simp [r.length], fun i d e => ?_⟩
  unfold startD at e
  by_cases hi : i < ds.length
  · rw [List.getElem?_append_left (by simpa using hi), List.getElem?_map] at e
    cases q : ds[i]? with
    | none => rw [q] at e; cases e
    | some d' =>
      rw [q] at e
      cases e
      obtain ⟨v, ev, rv⟩ := r.get q
      refine ⟨v, ?_, rv⟩
      unfold L2.start
      rw [List.getElem?_append_left (by rw [List.length_map, ← r.length]; exact hi), List.getElem?_map, ev] <;> rfl
  · rw [List.getElem?_append_right (by simpa using hi), List.getElem?_replicate] at e
    split at e <;> cases e
section
variable {P : Program} {w : World} {K : PySem.W.Frag} {mg : Str → Option Value} {base : Heap} {CR : Addr}
/-- THE RULE for a def from which nothing is raised: its derivation, its reading -/
theorem okD {x qual : Str} {st : Stmt} {f : Addr} {fd : FuncData} {N ps : List Str} {k : Nat} {sp : DSp} {wd : DSt} {dvs : List V} {kws : List (Str × V)} (F : FunD K x qual (defArgs st) (defBody st) (defScope st) dvs kws f fd) (S : FnScope N ps (defScope st))
    (der : ∀ (cdv : Value) (A : Around) (outer : List Env) (s : Shared) (H : Hp) (E : XK), Room k (A.deeper (envOfC qual (defScope st) s.heap.objs.size f cdv)) →
      PDSs (cxOf (L2.CX P w) P w K mg base N qual (defScope st) f cdv A outer s H E).nox ⟨K, CR, noE, noW⟩ (defBody st) wd)
    (len : ∀ ds M Q E, sp ds M Q E → ds.length = ps.length)
    (rd : ∀ ds M Q E, sp ds M Q E → wd { nx := fun _ M' => Q .non M', rt := Q } (startD N.length ds) M) : FnOk P w K mg base (L2.CX P w) (k + 1) f fd ps (lSp K CR sp) := by
  refine F.ok S (fun vs H Q E h => ?_) (fun cdv A outer s H vs Q E hr h => ⟨lS ⟨K, CR, noE, noW⟩ wd, (der cdv A outer s H E hr).nox, ?_⟩)
  · obtain ⟨P, ds, M, Qd, Ed, r, g, h, _⟩ := h
    rw [← r.length]
    exact len _ _ _ _ h
  · obtain ⟨P, ds, M, Qd, Ed, r, g, h, k1, k2⟩ := h
    exact ⟨P, _, M, _, reps_start r, g, XL.no, rd ds M Qd Ed h, ⟨fun σ H' ⟨δ', M', z, g', _, q⟩ => k1 .non H' ⟨.non, M', z, g', rfl, q⟩, k1, fun _ _ ⟨_, _, _, _, _, q⟩ => q.elim, fun _ _ ⟨_, _, _, _, _, q⟩ => q.elim⟩⟩
theorem def_mk {x qual : Str} {st : Stmt} {fd : FuncData} {ps : List Str} {k : Nat} {sp : DSp} {f : Addr} (F : FunD K x qual (defArgs st) (defBody st) (defScope st) [] [] f fd) (hm : mg x = some (.ref f)) (ok : FnOk P w K mg base (L2.CX P w) k f fd ps (lSp K CR sp))
    (h : ∀ (kV doc pm : Value) (an : Option Addr) (cdv ct : Value) (us : List Value), us.length = ps.length → bindArgs (PySem.W.fnOf x qual (defArgs st) (defBody st) (defScope st) .none kV doc pm an cdv ct) ⟨us, []⟩ = pure (ps.zip us)) : Def P w K mg base CR k x ps sp :=
  ⟨f, fd, ok, hm, F.kp, F.bindsN h⟩
end
section
variable {X : Cx} {CR : Addr} {E : DXS} {W : WX} {pos : Pos}
/-- a built-in type as a value -/
theorem d_ty {x : Str} {n : String} (hm : X.mg x = none) (hv : bootBuiltins x = some (.type n) := by decide +kernel) (hg : Gl X x := by rfl) (hn : x ≠ "__name__" := by decide) (hd : (x == ("__debug__" : Str)) = false := by decide) : PD X (bs X CR E W) (.Name x pos) (dC (.ty n)) :=
  pd_c (pe_bltn (v := .ty n) hg hm hv rfl hn hd) fun _ _ _ => rfl
def tyD : D → Mem → Option String
  | .non, _ => some "NoneType"
  | .bl _, _ => some "bool"
  | .int _, _ => some "int"
  | .str _, _ => some "str"
  | .tup _, _ => some "tuple"
  | .lst _, _ => some "list"
  | .ref p, M => match M p with
    | some (.lst _) => some "list"
    | _ => none
  | _, _ => none
theorem tyD_ok {O : Own} {H M} {d : D} {v : V} {n : String} (g : Good O H M) (r : Rep O H M d v) (h : tyD d M = some n) : TyX O.K H v (.type n) := by
  cases d with
  | non => cases h; rw [show v = .non from r]; exact .base .non
  | bl b => cases h; rw [show v = .bl b from r]; exact .base (.bl b)
  | int b => cases h; rw [show v = .int b from r]; exact .base (.int b)
  | str b => cases h; rw [show v = .str b from r]; exact .base (.str b)
  | tup xs => cases h; obtain ⟨a, vs, rfl, ⟨_, o, _, e⟩, _⟩ := r; exact .fTuple e
  | prs xs => cases h
  | lst xs => cases h; obtain ⟨a, vs, rfl, f, _⟩ := r; exact .base (.lst f.2)
  | ref p =>
    rw [show v = .ref p from r]
    cases e : M p with
    | none => simp [tyD, e] at h
    | some o =>
      cases o with
      | lst xs =>
        simp [tyD, e] at h
        subst h
        obtain ⟨vs, eh, _⟩ := g.at_ p _ e
        exact .base (.lst eh)
      | ins _ _ _ => simp [tyD, e] at h
      | dic _ _ => simp [tyD, e] at h
  | rat q => cases h
  | scr q => cases h
  | ty q => cases h
  | obj _ _ _ => cases h
/-- isinstance(x, T), T built-in -/
def rIsi : DC := fun ds M Q => ∃ x T a r, ds = [x, .ty T] ∧ tyD x M = some a ∧ kitB a T = some r ∧ Q (.bl r) M
theorem c_isi : CallR X (.builtin "isinstance") (lC X.K CR rIsi) := call_isi.imp fun xs H Q hh => by
  obtain ⟨P, ds, M, Qd, rs, gd, ⟨x, T, a, r, rfl, h1, h2, q⟩, k⟩ := hh
  obtain ⟨v, r1, rfl, r2, v2, r3, rfl, r4, r5⟩ := rs
  rw [show r3 = [] from r5, show v2 = .ty T from r4]
  exact ⟨v, .ty T, .type a, .type T, r, rfl, .ty T, tyD_ok gd r2 h1, kit_ty h2, k _ _ (lf_bl gd q)⟩
/-! ### tuple(), list() -/
def rTupOf : DC := fun ds M Q => (∃ xs, ds = [.lst xs] ∧ Q (.tup xs) M) ∨ (∃ xs, ds = [.tup xs] ∧ Q (.tup xs) M) ∨ ∃ p xs, ds = [.ref p] ∧ M p = some (.lst xs) ∧ Q (.tup xs) M
/-- tuple(list): a new tuple, known to the last; tuple(tuple): the same -/
theorem call_tupleZ : CallR X (.type "tuple") (fun xs H Q => ∃ p ys, xs = [.ref p] ∧ ((SqL X.K H p ys ∧ ∀ l o, H l = none → TupO o → Q (.ref l) (upd H l (.frz o (.tup ys)))) ∨ (SqT X.K H p ys ∧ Q (.ref p) H))) := by
  intro pins s σ H xs us Q I r h
  obtain ⟨p, ys, rfl, h⟩ := h
  obtain ⟨u, rfl, rx⟩ := vals1 r
  cases rx
  rcases h with ⟨hq, q⟩ | ⟨hq, q⟩
  · obtain ⟨its, r', pl, hz⟩ := I.list hq
    have hlen := r'.length
    refine call_tuple_list pl.isList (fun h' kp => ?_) (by simp only [List.size_toArray] <;> omega)
    have I1 : Inv X pins σ H { s with heap := h' } := I.kept (t' := s.toks) kp
    have I2 : Inv X pins σ (upd H h'.objs.size (.frz { cls := .type "tuple", data := .seq its.toArray } (.tup ys))) { s with heap := h'.push { cls := .type "tuple", data := .seq its.toArray } } :=
      I1.laid (t' := s.toks) (fun b o e => Heap.get?_push_of_some _ e) (Nat.le_refl _) (show ObjOk X.prog X.w _ _ _ (.frz _ (.tup ys)) from ⟨Heap.get?_push_size _ rfl, hz, its, r', IsTup.new _ _⟩)
    exact ⟨.ref h'.objs.size, _, I2, rfl, q _ _ (I1.hok.fresh (Nat.le_refl _)) rfl⟩
  · obtain ⟨its, r', pl, hz⟩ := I.tuple hq
    exact call_tuple_same pl ⟨.ref p, H, I, rfl, q⟩
theorem c_tuple : CallR X (.type "tuple") (lC X.K CR rTupOf) := call_tupleZ.imp fun xs H Q hh => by
  obtain ⟨P, ds, M, Qd, rs, gd, r, k⟩ := hh
  rcases r with ⟨xs, rfl, q⟩ | ⟨xs, rfl, q⟩ | ⟨p, xs, rfl, e, q⟩
  · obtain ⟨v, r1, rfl, ⟨a, vs, rfl, f, rs⟩, r5⟩ := rs
    rw [show r1 = [] from r5]
    exact ⟨a, vs, rfl, .inl ⟨f.sq, fun l o hl t => k _ _ (newT gd hl t rs q)⟩⟩
  · obtain ⟨v, r1, rfl, ⟨a, vs, rfl, f, rs⟩, r5⟩ := rs
    rw [show r1 = [] from r5]
    exact ⟨a, vs, rfl, .inr ⟨f.sq, k _ _ (LfV.here (d := .tup xs) gd ⟨a, vs, rfl, f, rs⟩ q)⟩⟩
  · obtain ⟨v, r1, rfl, r2, r5⟩ := rs
    obtain ⟨vs, eh, rs⟩ := gd.at_ p _ e
    rw [show r1 = [] from r5, show v = .ref p from r2]
    exact ⟨p, vs, rfl, .inl ⟨.of eh, fun l o hl t => k _ _ (newT gd hl t rs q)⟩⟩
def rLstOfG (ref : Bool) : DC := fun ds M Q => ∃ xs, (ds = [.lst xs] ∨ ds = [.tup xs] ∨ ∃ p, ds = [.ref p] ∧ M p = some (.lst xs)) ∧ if ref then (∀ p, M p = none → Q (.ref p) (mput M p (.lst xs))) else Q (.lst xs) M
abbrev rLstOf : DC := rLstOfG false
abbrev rLstOfR : DC := rLstOfG true
theorem lst_new {O : Own} {H M} {Q : DK} {ref : Bool} {xs : List D} {vs : List V} {l : Addr} (g : Good O H M) (hl : H l = none) (rs : Reps O H M xs vs) (q : if ref then (∀ p, M p = none → Q (.ref p) (mput M p (.lst xs))) else Q (.lst xs) M) : LfV O H M Q (.ref l) (upd H l (.lst vs)) := by
  cases ref with
  | true => exact newR g hl rs (q l (g.none hl).1)
  | false => exact newL g hl rs q
theorem c_listG {ref : Bool} : CallR X (.type "list") (lC X.K CR (rLstOfG ref)) := call_list_of.imp fun xs H Q hh => by
  obtain ⟨P, ds, M, Qd, rs, gd, ⟨xs, r, q⟩, k⟩ := hh
  rcases r with rfl | rfl | ⟨p, rfl, e⟩
  · obtain ⟨v, r1, rfl, ⟨a, vs, rfl, f, rs⟩, r5⟩ := rs
    rw [show r1 = [] from r5]
    exact ⟨a, vs, rfl, .inl f.sq, fun l hl => k _ _ (lst_new gd hl rs q)⟩
  · obtain ⟨v, r1, rfl, ⟨a, vs, rfl, f, rs⟩, r5⟩ := rs
    rw [show r1 = [] from r5]
    exact ⟨a, vs, rfl, .inr f.sq, fun l hl => k _ _ (lst_new gd hl rs q)⟩
  · obtain ⟨v, r1, rfl, r2, r5⟩ := rs
    obtain ⟨vs, eh, rs⟩ := gd.at_ p _ e
    rw [show r1 = [] from r5, show v = .ref p from r2]
    exact ⟨p, vs, rfl, .inl (.of eh), fun l hl => k _ _ (lst_new gd hl rs q)⟩
theorem c_list : CallR X (.type "list") (lC X.K CR rLstOf) := c_listG
theorem c_listR : CallR X (.type "list") (lC X.K CR rLstOfR) := c_listG
end
/-! ### little facts for readings -/
theorem ite_t {A B : Prop} (h : A) : if true = true then A else B := by rw [if_pos rfl]; exact h
theorem ite_f {A B : Prop} (h : B) : if false = true then A else B := by rw [if_neg Bool.false_ne_true]; exact h
theorem ite_d {c : Prop} [Decidable c] {A B : Prop} (h1 : c → A) (h2 : ¬ c → B) : if decide c = true then A else B := by
  by_cases h : c
  · rw [if_pos (decide_eq_true h)]; exact h1 h
  · rw [if_neg (by rw [decide_eq_false h]; exact Bool.false_ne_true)]; exact h2 h
theorem ite_b {b : Bool} {A B : Prop} (h1 : b = true → A) (h2 : b = false → B) : if b = true then A else B := by
  cases b with
  | true => exact ite_t (h1 rfl)
  | false => exact ite_f (h2 rfl)
/-! ### loops and comprehensions, by a word -/
theorem dLoop_ind {chk : Mem → Prop} {g : DG} {body : DSt} {De : DEnds} (I : List D → DS0 → Mem → Prop)
    (step : ∀ x xs δ M (K : DS0 → Mem → Prop), (∀ δ M, I xs δ M → K δ M) → I (x :: xs) δ M → chk M ∧ g x δ M fun δ1 M1 => body { De with nx := K, ct := K, bk := De.nx } δ1 M1)
    (fin : ∀ δ M, I [] δ M → chk M ∧ De.nx δ M) : ∀ xs δ M, I xs δ M → dLoop chk g body xs De δ M
  | [], δ, M, h => fin δ M h
  | x :: xs, δ, M, h => step x xs δ M _ (fun δ M h => dLoop_ind I step fin xs δ M h) h
theorem dLcL_ind {chk : Mem → Prop} {g : DG} {tt : DT} {te : DE} {δ : DS0} {Q : List D → Mem → Prop} (I : List D → List D → Mem → Prop)
    (step : ∀ x xs acc M (K : List D → Mem → Prop), (∀ acc M, I xs acc M → K acc M) → I (x :: xs) acc M → chk M ∧ acc.length < sizeLine ∧ g x δ M fun δ2 M2 => tt δ2 M2 fun b M3 => if b = true then te δ2 M3 fun y M4 => K (acc ++ [y]) M4 else K acc M3)
    (fin : ∀ acc M, I [] acc M → chk M ∧ Q acc M) : ∀ xs acc M, I xs acc M → dLcL chk g tt te δ xs acc M Q
  | [], acc, M, h => fin acc M h
  | x :: xs, acc, M, h => step x xs acc M (fun acc M => dLcL chk g tt te δ xs acc M Q) (fun acc M h => dLcL_ind I step fin xs acc M h) h
/-- a comprehension over values that makes a value of each -/
theorem lc_map {j : Nat} {te : DE} {δ : DS0} {Q : List D → Mem → Prop} (f : D → D) (P : D → Prop) (h : ∀ x M (K : DK), P x → K (f x) M → te (δ.set j (some x)) M K) :
    ∀ xs acc M, (∀ x, x ∈ xs → P x) → acc.length + xs.length ≤ sizeLine → Q (acc ++ xs.map f) M → dLcL always (gNm j) dYes te δ xs acc M Q
  | [], acc, M, _, _, q => ⟨trivial, by simpa using q⟩
  | x :: xs, acc, M, hp, hl, q => by
    refine ⟨trivial, by rw [List.length_cons] at hl; omega, ?_⟩
    refine ite_t (B := dLcL always (gNm j) dYes te δ xs acc M Q) (h x M _ (hp x List.mem_cons_self) (lc_map f P h xs _ M (fun y hy => hp y (List.mem_cons_of_mem _ hy)) ?_ ?_))
    · rw [List.length_append, List.length_singleton]; rw [List.length_cons] at hl; omega
    · simpa using q
theorem sz16 {n : Nat} (h : n ≤ 1000000) : n ≤ sizeLine := Nat.le_trans h (by decide)
theorem sz16lt {n : Nat} (h : n < 1000000) : n < sizeLine := Nat.lt_of_lt_of_le h (by decide)
theorem mulL {i j : Int} (h1 : -(2 ^ 64) < i) (h2 : i < 2 ^ 64) : IntMulOk i j := .of_left (intBits_le_64 h1 h2)
theorem mulR {i j : Int} (h1 : -(2 ^ 64) < j) (h2 : j < 2 ^ 64) : IntMulOk i j := .of_right (intBits_le_64 h1 h2)
theorem fmod_pos {a b : Int} (h : 0 < b) : a.fmod b = a % b := Int.fmod_eq_emod_of_nonneg a (by omega)
theorem fdiv_pos {a b : Int} (h : 0 < b) : a.fdiv b = a / b := Int.fdiv_eq_ediv_of_nonneg a (by omega)
theorem cfd_small {i j : Int} (h : 0 < j) (h2 : j < 1000000000) : CFd i j := ⟨by omega, by
  by_cases h0 : j.natAbs = 0
  · rw [h0]; decide
  · have : j.natAbs.log2 < 30 := (Nat.log2_lt h0).mpr (by omega)
    omega⟩
theorem atI_nn {α : Type} {xs : List α} {k : Int} {v : α} (h0 : 0 ≤ k) (h : xs[k.toNat]? = some v) : atI xs k = some v := by
  have e : k = ((k.toNat : Nat) : Int) := by omega
  rw [e]
  exact atI_nat h
theorem reps_ints {O : Own} {H M} : ∀ ns : List Int, Reps O H M (ns.map D.int) (ns.map V.int)
  | [] => rfl
  | n :: ns => ⟨_, _, rfl, rfl, reps_ints ns⟩
/-- a law's end: its def keeps the promise over the script -/
theorem walkD {l : PySem.W.OpenLaw} {n k : Nat} {q : Program} {loose : List Str} {XP : (Str → Option Value) → Heap → Prop} {YP : World → Heap → Prop} {d : DefRec} {x : Str} (sp : DSp)
    (hn : l.most = some n) (hn2 : n ≤ sizeLine) (hdf : d.params.defaults = []) (hr : Room k callerA)
    (hs : ∀ (ns : List Int) (M : Mem), ns.length ≤ n → sp [.scr (ns.map D.int)] M (fun r _ => r = .bl true) noX)
    (F : ∀ (w : World) (mg : Str → Option Value) (fa : Addr) (h : Heap), YP w h → h.Ns mainGlobals mg → mg d.name = some (.ref fa) → ∃ (K : PySem.W.Frag) (fd : FuncData) (CR : Addr),
      K.In h ∧ (∀ (s : Shared) (u : Value), BindsTo s fd ⟨[u], []⟩ [(x, u)]) ∧ ∀ base : Heap, K.In base → base.Ns mainGlobals mg → FnOk l.prog w K mg base (L2.CX l.prog w) k fa fd [x] (lSp K CR sp)) :
    PySem.W.WalkO q loose XP YP l.row.toRowW d [] (fun f us => PySem.call f us) := by
  refine Att.attach_call hn hdf fun w s0 s1 mg mb fa o pm cd doc a us ns G Y ho hd hcd hmg hobj hints hlen hg => ?_
  obtain ⟨K, fd, CR, KX, hb, hF⟩ := F w mg fa _ Y G.T.g hmg
  refine law_call KX G.T.g G.T.b G.T.builtins G.T.nolimit hg hobj hints (Nat.le_trans hlen hn2) hr hF hb (fun H hO hS => ?_) fun H e s' ⟨_, _, _, _, _, _, _, _, _, _, _, _, no⟩ => no
  refine ⟨fun _ => False, [.scr (ns.map D.int)], fun _ => none, _, noX, ⟨_, _, rfl, ⟨a, _, rfl, ?_, reps_ints ns⟩, rfl⟩, ⟨fun _ _ e => (by cases e), fun _ (h : False) => h.elim⟩, hs ns _ hlen, fun v H' ⟨r, M', z, g, rr, e⟩ => ?_, fun c d H' l => l.no⟩
  · rcases hS with h | h
    · exact .inl ⟨⟨rfl, id⟩, h⟩
    · exact .inr (.inr h)
  subst e
  exact rr
section
variable {X : Cx} {CR : Addr} {E : DXS} {W : WX} {pos : Pos}
/-- a number, a text at the module's top -/
theorem d_kint {x : Str} {i : Int} (hm : ∃ t, X.mg x = some (.int i t)) (hg : Gl X x := by rfl) (hd : (x == ("__debug__" : Str)) = false := by decide) : PD X (bs X CR E W) (.Name x pos) (dC (.int i)) :=
  let ⟨_, e⟩ := hm; pd_c (pe_glob (v := .int i) hg e ⟨_, rfl⟩ hd) fun _ _ _ => rfl
theorem d_kstr {x z : Str} (hm : ∃ t, X.mg x = some (.str z t)) (hg : Gl X x := by rfl) (hd : (x == ("__debug__" : Str)) = false := by decide) : PD X (bs X CR E W) (.Name x pos) (dC (.str z)) :=
  let ⟨_, e⟩ := hm; pd_c (pe_glob (v := .str z) hg e ⟨_, rfl⟩ hd) fun _ _ _ => rfl
end
/-! fractions: plain laws over Rat -/
theorem gcdN (a b : Int) (h : b ≠ 0) : 0 < Nat.gcd a.natAbs b.natAbs := Nat.gcd_pos_of_pos_right _ (Int.natAbs_pos.mpr h)
/-- what __init__ reckons: the common divisor with the bottom's sign -/
def comm (a b : Int) : Int := if b < 0 then -((Nat.gcd a.natAbs b.natAbs : Nat) : Int) else ((Nat.gcd a.natAbs b.natAbs : Nat) : Int)
theorem comm_ne {a b : Int} (h : b ≠ 0) : comm a b ≠ 0 := by
  have := gcdN a b h
  unfold comm
  split <;> omega
theorem comm_le {a b : Int} (h : b ≠ 0) : (comm a b).natAbs ≤ b.natAbs := by
  have : Nat.gcd a.natAbs b.natAbs ≤ b.natAbs := Nat.le_of_dvd (Int.natAbs_pos.mpr h) (Nat.gcd_dvd_right _ _)
  unfold comm
  split <;> omega
theorem dvd_a (a b : Int) : ((Nat.gcd a.natAbs b.natAbs : Nat) : Int) ∣ a := Int.ofNat_dvd_left.mpr (Nat.gcd_dvd_left _ _)
theorem dvd_b (a b : Int) : ((Nat.gcd a.natAbs b.natAbs : Nat) : Int) ∣ b := Int.ofNat_dvd_left.mpr (Nat.gcd_dvd_right _ _)
theorem fdiv_neg' {a g : Int} (h : g ∣ a) (hg : g ≠ 0) : a.fdiv (-g) = -(a / g) := by
  obtain ⟨c, rfl⟩ := h
  rw [Int.mul_ediv_cancel_left _ hg]
  have e : g * c = (-g) * (-c) := by rw [Int.neg_mul_neg]
  rw [e, Int.mul_fdiv_cancel_left _ (by omega)]
theorem init_num {a b : Int} (h : b ≠ 0) : a.fdiv (comm a b) = (Rat.divInt a b).num := by
  have hg := gcdN a b h
  have e : Int.gcd b a = Nat.gcd a.natAbs b.natAbs := by rw [Int.gcd, Nat.gcd_comm]
  rw [Rat.num_divInt, e]
  unfold comm
  split
  · rename_i n
    rw [Int.sign_eq_neg_one_of_neg n, fdiv_neg' (dvd_a a b) (by omega)]
    rw [Int.neg_one_mul, Int.neg_ediv_of_dvd (dvd_a a b)]
  · rw [Int.sign_eq_one_of_pos (by omega), Int.one_mul, Int.fdiv_eq_ediv_of_dvd (dvd_a a b)]
theorem init_den {a b : Int} (h : b ≠ 0) : b.fdiv (comm a b) = ((Rat.divInt a b).den : Int) := by
  have hg := gcdN a b h
  have e : Int.gcd b a = Nat.gcd a.natAbs b.natAbs := by rw [Int.gcd, Nat.gcd_comm]
  rw [Rat.den_divInt, e, if_neg h]
  unfold comm
  rw [Int.natCast_ediv]
  split
  · rename_i n
    rw [fdiv_neg' (dvd_b a b) (by omega)]
    have : (b.natAbs : Int) = -b := by omega
    rw [this, Int.neg_ediv_of_dvd (dvd_b a b)]
  · rw [Int.fdiv_eq_ediv_of_dvd (dvd_b a b)]
    have : (b.natAbs : Int) = b := by omega
    rw [this]
theorem dne (q : Rat) : (q.den : Int) ≠ 0 := by have := q.den_pos; omega
theorem dpos (q : Rat) : 0 < (q.den : Int) := by have := q.den_pos; omega
theorem q_add (p q : Rat) : Rat.divInt (p.num * q.den + q.num * p.den) (p.den * q.den) = p + q := by
  rw [← Rat.divInt_add_divInt _ _ (dne p) (dne q), Rat.num_divInt_den, Rat.num_divInt_den]
theorem q_sub (p q : Rat) : Rat.divInt (p.num * q.den - q.num * p.den) (p.den * q.den) = p - q := by
  rw [← Rat.divInt_sub_divInt _ _ (dne p) (dne q), Rat.num_divInt_den, Rat.num_divInt_den]
theorem q_mul (p q : Rat) : Rat.divInt (p.num * q.num) (p.den * q.den) = p * q := by
  rw [← Rat.divInt_mul_divInt, Rat.num_divInt_den, Rat.num_divInt_den]
theorem q_neg (p : Rat) : Rat.divInt (-p.num) p.den = -p := by
  rw [← Rat.neg_divInt, Rat.num_divInt_den]
theorem q_num0 {p : Rat} : p.num = 0 ↔ p = 0 := Rat.num_eq_zero
theorem q_over (p q : Rat) (h : q ≠ 0) : Rat.divInt (p.num * q.den) (p.den * q.num) = p / q := by
  have hq : q.num ≠ 0 := fun e => h (q_num0.mp e)
  have e : q = (q.num : Rat) / ((q.den : Int) : Rat) := by rw [← Rat.divInt_eq_div, Rat.num_divInt_den]
  have e2 : p = (p.num : Rat) / ((p.den : Int) : Rat) := by rw [← Rat.divInt_eq_div, Rat.num_divInt_den]
  rw [Rat.divInt_eq_div, Rat.intCast_mul, Rat.intCast_mul]
  have h1 : (q.num : Rat) ≠ 0 := fun e => hq (Rat.intCast_inj.mp (by simpa using e))
  have h2 : ((q.den : Int) : Rat) ≠ 0 := fun e => dne q (Rat.intCast_inj.mp (by simpa using e))
  have h3 : ((p.den : Int) : Rat) ≠ 0 := fun e => dne p (Rat.intCast_inj.mp (by simpa using e))
  generalize hA : (p.num : Rat) = A at *
  generalize hB : ((p.den : Int) : Rat) = B at *
  generalize hC : (q.num : Rat) = C at *
  generalize hD : ((q.den : Int) : Rat) = G at *
  rw [e2, e]
  grind
theorem q_abs (p : Rat) : Rat.divInt (p.num.natAbs : Int) p.den = p.abs := by
  by_cases h : 0 ≤ p.num
  · rw [Int.natAbs_of_nonneg h, Rat.num_divInt_den, Rat.abs_of_nonneg (Rat.num_nonneg.mp h)]
  · have : (p.num.natAbs : Int) = -p.num := by omega
    rw [this, q_neg, Rat.abs_of_nonpos (by
      have : ¬ (0 : Rat) ≤ p := fun e => h (Rat.num_nonneg.mpr e)
      exact Rat.le_of_lt (Rat.not_le.mp this))]
theorem q_eq (p q : Rat) : p = q ↔ p.num = q.num ∧ (p.den : Int) = q.den := ⟨fun h => h ▸ ⟨rfl, rfl⟩, fun ⟨h1, h2⟩ => Rat.ext h1 (by omega)⟩
theorem q_int (n : Int) : Rat.divInt n 1 = (n : Rat) := by rw [Rat.divInt_eq_div]; grind
/-! ### sizes -/
/-- at most n bits above and below -/
def Bt (n : Nat) (q : Rat) : Prop := q.num.natAbs ≤ 2 ^ n ∧ q.den ≤ 2 ^ n
theorem Bt.mono {n m : Nat} {q : Rat} (h : Bt n q) (k : n ≤ m) : Bt m q := ⟨Nat.le_trans h.1 (Nat.pow_le_pow_right (by decide) k), Nat.le_trans h.2 (Nat.pow_le_pow_right (by decide) k)⟩
theorem bt_div {n : Nat} {a b : Int} (ha : a.natAbs ≤ 2 ^ n) (hb : b.natAbs ≤ 2 ^ n) : Bt n (Rat.divInt a b) := by
  by_cases h : b = 0
  · subst h
    rw [Rat.divInt_zero]
    exact ⟨Nat.zero_le _, Nat.one_le_two_pow⟩
  · have e1 := init_num (a := a) h
    have e2 := init_den (a := a) h
    have k : ∀ x : Int, ∀ g : Int, g ≠ 0 → (g ∣ x) → (x.fdiv g).natAbs ≤ x.natAbs := fun x g hg ⟨c, hc⟩ => by
      subst hc
      rw [Int.mul_fdiv_cancel_left _ hg, Int.natAbs_mul]
      exact Nat.le_mul_of_pos_left _ (Int.natAbs_pos.mpr hg)
    have d : ∀ x : Int, ((Nat.gcd a.natAbs b.natAbs : Nat) : Int) ∣ x → comm a b ∣ x := fun x hx => by
      unfold comm
      split
      · exact Int.neg_dvd.mpr hx
      · exact hx
    refine ⟨?_, ?_⟩
    · rw [← e1]
      exact Nat.le_trans (k _ _ (comm_ne h) (d _ (dvd_a a b))) ha
    · have := k _ _ (comm_ne h) (d _ (dvd_b a b))
      rw [e2] at this
      have t : (((Rat.divInt a b).den : Int)).natAbs = (Rat.divInt a b).den := Int.natAbs_natCast _
      omega
theorem pow_add' (n m : Nat) : 2 ^ (n + m) = 2 ^ n * 2 ^ m := Nat.pow_add ..
theorem bt_mul {n m : Nat} {p q : Rat} (hp : Bt n p) (hq : Bt m q) : Bt (n + m) (p * q) := by
  rw [← q_mul]
  refine bt_div ?_ ?_
  · rw [Int.natAbs_mul, pow_add']; exact Nat.mul_le_mul hp.1 hq.1
  · rw [Int.natAbs_mul, pow_add']; exact Nat.mul_le_mul (by simpa using hp.2) (by simpa using hq.2)
theorem bt_add {n m : Nat} {p q : Rat} (hp : Bt n p) (hq : Bt m q) : Bt (n + m + 1) (p + q) := by
  rw [← q_add]
  have h1 : (p.num * q.den).natAbs ≤ 2 ^ (n + m) := by rw [Int.natAbs_mul, pow_add']; exact Nat.mul_le_mul hp.1 (by simpa using hq.2)
  have h2 : (q.num * p.den).natAbs ≤ 2 ^ (n + m) := by rw [Int.natAbs_mul, pow_add', Nat.mul_comm]; exact Nat.mul_le_mul (by simpa using hp.2) hq.1
  have h3 : ((p.den : Int) * q.den).natAbs ≤ 2 ^ (n + m) := by rw [Int.natAbs_mul, pow_add']; exact Nat.mul_le_mul (by simpa using hp.2) (by simpa using hq.2)
  have e : 2 ^ (n + m + 1) = 2 ^ (n + m) + 2 ^ (n + m) := by rw [Nat.pow_succ]; omega
  refine bt_div ?_ ?_
  · rw [e]; omega
  · rw [e]; omega
theorem bt_neg {n : Nat} {p : Rat} (hp : Bt n p) : Bt n (-p) := by
  rw [← q_neg]
  exact bt_div (by rw [Int.natAbs_neg]; exact hp.1) (by simpa using hp.2)
theorem bt_abs {n : Nat} {p : Rat} (hp : Bt n p) : Bt n p.abs := by
  rw [← q_abs]
  exact bt_div (by rw [Int.natAbs_natCast]; exact hp.1) (by simpa using hp.2)
theorem bt_sub {n m : Nat} {p q : Rat} (hp : Bt n p) (hq : Bt m q) : Bt (n + m + 1) (p - q) := by
  rw [Rat.sub_eq_add_neg]; exact bt_add hp (bt_neg hq)
theorem bt_over {n m : Nat} {p q : Rat} (hp : Bt n p) (hq : Bt m q) : Bt (n + m) (p / q) := by
  by_cases h : q = 0
  · subst h
    rw [Rat.div_def, Rat.inv_zero, Rat.mul_zero]
    exact ⟨Nat.zero_le _, Nat.one_le_two_pow⟩
  · rw [← q_over p q h]
    refine bt_div ?_ ?_
    · rw [Int.natAbs_mul, pow_add']; exact Nat.mul_le_mul hp.1 (by simpa using hq.2)
    · rw [Int.natAbs_mul, pow_add']; exact Nat.mul_le_mul (by simpa using hp.2) hq.1
theorem bt_int {n : Nat} {i : Int} (h : i.natAbs ≤ 2 ^ n) : Bt n (i : Rat) := ⟨by rw [Rat.num_intCast]; exact h, by rw [Rat.den_intCast]; exact Nat.one_le_two_pow⟩
/-! ### fractions: fields, the making -/
section
variable {X : Cx} {CR : Addr} {E : DXS} {W : WX} {pos : Pos}
/-- a statement that is never reached -/
def dNever : DSt := fun _ _ _ => False
theorem s_never {st : Stmt} : PDS X (bs X CR E W) st dNever := ⟨fun p s σ H Dn I h => by obtain ⟨_, _, _, _, _, _, _, h, _⟩ := h; exact h.elim⟩
def dTop (w : DE) : DE := fun δ M Q => w δ M fun d M1 => ∃ q, d = .rat q ∧ Q (.int q.num) M1
def dBot (w : DE) : DE := fun δ M Q => w δ M fun d M1 => ∃ q, d = .rat q ∧ Q (.int q.den) M1
theorem d_top {e : Expr} {w : DE} (c : Cls X.K CR) (n : NoAttr X.K CR "top") (he : PD X (bs X CR E W) e w) (hb : attributeBase e "top" X.env (eval e X.env) = eval e X.env := by rfl) : PD X (bs X CR E W) (.Attribute e "top" pos) (dTop w) := by
  refine (pe_fld he hb).imp fun σ H Q h => ?_
  obtain ⟨P, δ, M, Qd, hS, g, x, w, k⟩ := h
  refine ⟨P, δ, M, _, hS, g, x, w, fun v H1 ⟨d, M1, z, g1, r, q, hd, hq⟩ => ?_⟩
  subst hd
  obtain ⟨a, dx, ev, _, ea⟩ := r
  exact ⟨a, CR, dx, _, .int q.num, ev, ea, c, n, rfl, k _ _ ⟨.int q.num, M1, z, g1, rfl, hq⟩⟩
theorem d_bot {e : Expr} {w : DE} (c : Cls X.K CR) (n : NoAttr X.K CR "bottom") (he : PD X (bs X CR E W) e w) (hb : attributeBase e "bottom" X.env (eval e X.env) = eval e X.env := by rfl) : PD X (bs X CR E W) (.Attribute e "bottom" pos) (dBot w) := by
  refine (pe_fld he hb).imp fun σ H Q h => ?_
  obtain ⟨P, δ, M, Qd, hS, g, x, w, k⟩ := h
  refine ⟨P, δ, M, _, hS, g, x, w, fun v H1 ⟨d, M1, z, g1, r, q, hd, hq⟩ => ?_⟩
  subst hd
  obtain ⟨a, dx, ev, _, ea⟩ := r
  exact ⟨a, CR, dx, _, .int q.den, ev, ea, c, n, rfl, k _ _ ⟨.int q.den, M1, z, g1, rfl, hq⟩⟩
/-- o.f = value: a new field at the end, or another value of one that is there -/
inductive PutN (f : Str) (d : D) : List Str → List D → List Str → List D → Prop where
  | new {ns xs} (h : f ∉ ns) : PutN f d ns xs (ns ++ [f]) (xs ++ [d])
  | old {ns xs} (i : Nat) (h : ns[i]? = some f) (hn : ∀ j, j < i → ns[j]? ≠ some f) : PutN f d ns xs ns (xs.set i d)
theorem putF_new {f : Str} {v : V} : ∀ {ns : List Str} {vs : List V}, f ∉ ns → ns.length = vs.length → putF f v (ns.zip vs) = (ns ++ [f]).zip (vs ++ [v])
  | [], [], _, _ => rfl
  | [], _ :: _, _, h => by cases h
  | _ :: _, [], _, h => by cases h
  | n :: ns, x :: vs, h, hl => by
    have h1 : ¬ n = f := fun e => h (e ▸ List.mem_cons_self)
    show putF f v ((n, x) :: ns.zip vs) = (n, x) :: (ns ++ [f]).zip (vs ++ [v])
    unfold putF
    rw [if_neg h1, putF_new (fun m => h (List.mem_cons_of_mem _ m)) (by simpa using hl)]
theorem putF_old {f : Str} {v : V} : ∀ {ns : List Str} {vs : List V} (i : Nat), ns[i]? = some f → (∀ j, j < i → ns[j]? ≠ some f) → ns.length = vs.length → putF f v (ns.zip vs) = ns.zip (vs.set i v)
  | [], _, _, h, _, _ => by simp at h
  | _ :: _, [], _, _, _, h => by cases h
  | n :: ns, x :: vs, i, h, hn, hl => by
    show putF f v ((n, x) :: ns.zip vs) = _
    unfold putF
    cases i with
    | zero =>
      simp at h
      rw [if_pos h]; rfl
    | succ i =>
      have h1 : ¬ n = f := fun e => hn 0 (by omega) (by simp [e])
      rw [if_neg h1, putF_old i (by simpa using h) (fun j hj => by simpa using hn (j + 1) (by omega)) (by simpa using hl)]
      rfl
def dFldSet (okC : Addr → Prop) (f : Str) (wo wv : DE) : DSt := fun Dn δ M => wv δ M fun y M1 => wo δ M1 fun x M2 => ∃ p C ns xs ns' xs', x = .ref p ∧ M2 p = some (.ins C ns xs) ∧ okC C ∧ ns.length < 1000 ∧ ns.length = xs.length ∧ PutN f y ns xs ns' xs' ∧ Dn.nx δ (mput M2 p (.ins C ns' xs'))
theorem s_fld {o value : Expr} {wo wv : DE} {okC : Addr → Prop} {f : Str} {pos' : Pos} (hC : ∀ C, okC C → Cls X.K C ∧ NoAttr X.K C f) (ho : PD X (bs X CR E W) o wo) (hv : PD X (bs X CR E W) value wv)
    (hs : swapsWith value (some (.Attribute o f pos')) pos.line X.env = pure false := by rfl) : PDS X (bs X CR E W) (.Assign [.Attribute o f pos'] value pos) (dFldSet okC f wo wv) := by
  refine (ps_fld ho hv hs).imp fun Dn σ H h => ?_
  obtain ⟨P, δ, M, Dd, hS, g, x, w, k⟩ := h
  refine ⟨P, δ, M, _, hS, g, x, w, fun vy H1 ⟨y, M1, z1, g1, ry, q1⟩ => ⟨P, δ, M1, _, hS.mono z1, g1, x.trans z1, q1, fun vx H2 ⟨xd, M2, z2, g2, rx, p, C, ns, xs, ns', xs', ex, em, ok, hl, hl2, pt, q2⟩ => ?_⟩⟩
  subst ex
  obtain ⟨dx, vs, e1, l1, rs⟩ := g2.at_ p _ em
  obtain ⟨c, n⟩ := hC C ok
  have ry2 := ry.mono z2
  have lz : (ns.zip vs).length < 1000 := by rw [List.length_zip, ← l1]; omega
  refine ⟨p, C, dx, ns.zip vs, rx, e1, c, n, lz, ?_⟩
  have z3 : Fz ⟨X.K, CR, P⟩ H2 M2 (upd H2 p (.ins C dx (putF f vy (ns.zip vs)))) (mput M2 p (.ins C ns' xs')) := fz_put g2 em
  refine k.nx σ _ ⟨δ, _, (z1.trans z2).trans z3, good_put g2 (g2.noP em) z3 ?_, ((hS.mono z1).mono z2).mono z3, q2⟩
  cases pt with
  | new h => exact ⟨dx, vs ++ [vy], by rw [upd_same, putF_new h l1], by rw [List.length_append, List.length_append, l1]; rfl, (rs.mono z3).append (Reps.one (ry2.mono z3))⟩
  | old i h hn => exact ⟨dx, vs.set i vy, by rw [upd_same, putF_old i h hn l1], by rw [List.length_set, l1], Reps.set (ry2.mono z3) i (rs.mono z3)⟩
/-! ### Ratio(..) -/
def szB (_ : Int) : Prop := True
def CFb (_ j : Int) : Prop := j ≠ 0
def rFdivB : D2 := rI2 CFb fun i j => .int (i.fdiv j)
/-- a division may go by pylong: there is room for it -/
def PyR (X : Cx) : Prop := ∀ (pins : List (Addr × Obj)) (σ : L2.St) (H : Hp) (s : Shared), Inv X pins σ H s → PySem.PylongRoom (model X.prog X.w) X.A s
theorem o_fdivB {X : Cx} {CR : Addr} (p : PyR X) : OpR X (binaryOp .FloorDiv) (l2 X.K CR rFdivB) := ops_int (C := CFb) (g := fun i j => i.fdiv j) fun pins s σ H x y v u Q I rx ry h => by
  obtain ⟨i, j, rfl, rfl, hc, q⟩ := h
  obtain ⟨t, rfl⟩ := rx
  obtain ⟨t', rfl⟩ := ry
  exact floordiv_int hc ⟨.int (i.fdiv j), H, I.tok _, ⟨_, rfl⟩, q⟩ (.inr (p pins σ H s I))
end
def sp_init (CR : Addr) : DSp := fun ds M Q _ => ∃ (p : Addr) (a b : Int), ds = [.ref p, .int a, .int b] ∧ M p = some (.ins CR [] []) ∧ b ≠ 0 ∧ szB b ∧ Q .non (mput M p (.ins CR ["top", "bottom"] [.int (Rat.divInt a b).num, .int (Rat.divInt a b).den]))
def MkD : List D → Mem → DK → Prop := fun ds M Q => match ds with
  | [.int a] => Q (.rat (a : Rat)) M
  | [.int a, .int b] => b ≠ 0 ∧ szB b ∧ Q (.rat (Rat.divInt a b)) M
  | _ => False
def dMk (t : DA) : DE := fun δ M Q => t δ M fun ds M1 => MkD ds M1 Q
/-- Ratio's __init__: with a bottom, without one -/
structure MkOk (P : Program) (w : World) (K : PySem.W.Frag) (mg : Str → Option Value) (base : Heap) (CR : Addr) : Prop where
  ex : ∃ f fd d1, Mk K CR f ∧ FnOk P w K mg base (L2.CX P w) 36 f fd ["self", "top", "bottom"] (lSp K CR (sp_init CR)) ∧ Binds K fd ["self", "top", "bottom"] [] ∧ Binds K fd ["self", "top", "bottom"] [d1] ∧ Vals [V.int 1] [d1]
theorem MkD.cases {ds : List D} {M : Mem} {Q : DK} (h : MkD ds M Q) : ∃ (a b : Int), b ≠ 0 ∧ szB b ∧ (ds = [.int a, .int b] ∨ (ds = [.int a] ∧ b = 1)) ∧ Q (.rat (Rat.divInt a b)) M := by
  unfold MkD at h
  split at h
  · exact ⟨_, 1, by decide, trivial, .inr ⟨rfl, rfl⟩, by rw [q_int]; exact h⟩
  · exact ⟨_, _, h.1, h.2.1, .inl rfl, h.2.2⟩
  · exact h.elim
section
variable {X : Cx} {CR : Addr} {E : DXS} {W : WX} {pos p : Pos} {e : Expr} {es : List Expr} {t : DA}
/-- a new instance is one of the memory until it is let go -/
theorem make_end {P : Addr → Prop} {H M} {Q : VK} {Qd : DK} {vs dvs : List V} {a b : Int} (g : Good ⟨X.K, CR, P⟩ H M) (rs : Reps ⟨X.K, CR, P⟩ H M [.int a, .int b] (vs ++ dvs)) (hb : b ≠ 0) (hz : szB b) (q : Qd (.rat (Rat.divInt a b)) M)
    (k : ∀ v H', LfV ⟨X.K, CR, P⟩ H M Qd v H' → Q v H') : ∀ x dx, H x = none → H dx = none → dx ≠ x →
      lSp X.K CR (sp_init CR) (.ref x :: (vs ++ dvs)) (upd (upd H dx (.own x)) x (.ins CR dx [])) (fun v H2 => v = .non ∧ Q (.ref x) H2) E0 := by
  intro x dx hx hd hne
  have z1 : Fz ⟨X.K, CR, P⟩ H M (upd H dx (.own x)) M := fz_new g hd
  have g1 : Good ⟨X.K, CR, P⟩ (upd H dx (.own x)) M := good_new g hd
  have hx1 : upd H dx (.own x) x = none := by rw [upd_ne (Ne.symm hne)]; exact hx
  have z2 : Fz ⟨X.K, CR, P⟩ (upd H dx (.own x)) M (upd (upd H dx (.own x)) x (.ins CR dx [])) (mput M x (.ins CR [] [])) := fz_newM g1 hx1
  have fx := g.none hx
  have g2 : Good ⟨X.K, CR, P⟩ (upd (upd H dx (.own x)) x (.ins CR dx [])) (mput M x (.ins CR [] [])) := good_put g1 fx.2 z2 ⟨dx, [], upd_same, rfl, rfl⟩
  refine ⟨P, .ref x :: [.int a, .int b], mput M x (.ins CR [] []), fun d M2 => d = .non ∧ M2 = mput M x (.ins CR ["top", "bottom"] [.int (Rat.divInt a b).num, .int (Rat.divInt a b).den]), noX, ⟨_, _, rfl, rfl, (rs.mono z1).mono z2⟩, g2, ⟨x, a, b, rfl, mput_same, hb, hz, rfl, by rw [mput_mput]⟩, ?_, fun c d H' l => l.no⟩
  rintro v H' ⟨d, M2, z, g3, r, rfl, rfl⟩
  refine ⟨r, k _ _ ⟨.rat (Rat.divInt a b), mdel _ x, ((z1.trans z2).trans z).trans fz_del, good_del g3, ?_, by rw [mdel_mput fx.1]; exact q⟩⟩
  obtain ⟨dx', ws, e1, l1, rw1⟩ := g3.at_ x _ mput_same
  obtain ⟨v1, r1, rfl, h1, v2, r2, rfl, h2, h3⟩ := rw1
  rw [show r2 = [] from h3, show v1 = .int _ from h1, show v2 = .int _ from h2] at e1
  exact ⟨x, dx', rfl, ⟨mdel_same, fx.2⟩, e1⟩
theorem MkOk.d_mk {x : Str} (T : MkOk X.prog X.w X.K X.mg X.base CR) (hm : X.mg x = some (.ref CR)) (hr : Room 37 X.A) (ha : PDA X (bs X CR E W) (e :: es) t) (hg : Gl X x := by rfl)
    (hdb : (x == ("__debug__" : Str)) = false := by decide) (he : starEach (e :: es) X.env = (false, eval e X.env) :: starEach es X.env := by rfl) (hpl : (backTo pos (starEach es X.env)).any (·.1) = false := by rfl) : PD X (bs X CR E W) (.Call (.Name x p) (e :: es) [] pos) (dMk t) := by
  obtain ⟨f, fd, d1, mk, F, b0, b1, v1⟩ := T.ex
  refine ⟨fun pins s σ H Q I h => ?_⟩
  refine wpAny_Call_Name_kw (ld_glob I hg hm ?_ hdb)
  refine PySem.W.callWith_K (h₀ := X.base) I.ok.mod.kin mk.kp (thn (ha.run pos pins s σ H (fun vs H1 => ∃ (P : Addr → Prop) (ds : List D) (M1 : Mem) (Qd : DK), Good ⟨X.K, CR, P⟩ H1 M1 ∧ Reps ⟨X.K, CR, P⟩ H1 M1 ds vs ∧ MkD ds M1 Qd ∧ ∀ v H', LfV ⟨X.K, CR, P⟩ H1 M1 Qd v H' → Q v H') I ?_) fun us s1 ⟨vs, H1, I1, r, q⟩ => ⟨I1.kIn, ?_⟩) he hpl
  · obtain ⟨P, δ, M, Qd, hS, g, x, w, k⟩ := h
    exact ⟨P, δ, M, _, hS, g, x, w, fun vs H1 ds M1 z1 g1 rs q => ⟨P, ds, M1, Qd, g1, rs, q, fun v H' l => k v H' (l.trans z1)⟩⟩
  · obtain ⟨P, ds, M1, Qd, g1, rs, q, k⟩ := q
    obtain ⟨a, b, hb, hz, rfl | ⟨rfl, rfl⟩, q3⟩ := q.cases
    · exact run_make mk F hr b0 .nil passL I1 r (make_end (vs := vs) (dvs := []) g1 (by rw [List.append_nil]; exact rs) hb hz q3 k)
    · exact run_make mk F hr b1 v1 passL I1 r (make_end (vs := vs) (dvs := [V.int 1]) g1 (rs.append (Reps.one (d := .int 1) rfl)) hb hz q3 k)
end
/-! ### fractions: the class's own operators -/
/-- a method of two, of one -/
structure Op2 (P : Program) (w : World) (K : PySem.W.Frag) (mg : Str → Option Value) (base : Heap) (CR : Addr) (name : Str) (sp : DSp) : Prop where
  ex : ∃ f fd, FnOk P w K mg base (L2.CX P w) 38 f fd ["self", "other"] (lSp K CR sp) ∧ Binds K fd ["self", "other"] [] ∧ PySem.W.findIn K (.ref CR) name = some (some (.ref f)) ∧ PySem.W.isFn K (.ref f) = true
structure Op1 (P : Program) (w : World) (K : PySem.W.Frag) (mg : Str → Option Value) (base : Heap) (CR : Addr) (name : Str) (sp : DSp) : Prop where
  ex : ∃ f fd, FnOk P w K mg base (L2.CX P w) 38 f fd ["self"] (lSp K CR sp) ∧ Binds K fd ["self"] [] ∧ PySem.W.findIn K (.ref CR) name = some (some (.ref f)) ∧ PySem.W.isFn K (.ref f) = true
section
variable {X : Cx} {CR : Addr} {pins : List (Addr × Obj)} {σ : L2.St} {s : Shared}
theorem cmpBack {H : Hp} {Q : VK} {u : Value} {s' : Shared} (h : EP X pins σ Q u s') : PySem.W.CmpBack (EP X pins σ Q) u s' := by
  obtain ⟨v, H', I, r, q⟩ := id h
  cases v with
  | non => rw [show u = _ from r] at h ⊢; exact h
  | bl b => rw [show u = _ from r] at h ⊢; exact h
  | int i => obtain ⟨t, e⟩ := (show ∃ t, u = Value.int i t from r); rw [e] at h ⊢; exact h
  | str i => obtain ⟨t, e⟩ := (show ∃ t, u = Value.str i t from r); rw [e] at h ⊢; exact h
  | byt i => obtain ⟨t, e⟩ := (show ∃ t, u = Value.bytes i t from r); rw [e] at h ⊢; exact h
  | flt i => obtain ⟨t, e⟩ := (show ∃ t, u = Value.float i t from r); rw [e] at h ⊢; exact h
  | ref i => rw [show u = _ from r] at h ⊢; exact h
  | ty i => rw [show u = _ from r] at h ⊢; exact h
/-- what the two-place rules tell: two fractions, the method's promise -/
def r2 (sp : DSp) : D2 := fun a b M Q => ∃ p q, a = .rat p ∧ b = .rat q ∧ sp [.rat p, .rat q] M Q noX
theorem lSp_of {P : Addr → Prop} {H M} {ds : List D} {vs : List V} {sp : DSp} {Q : VK} {Qd : DK} (g : Good ⟨X.K, CR, P⟩ H M) (rs : Reps ⟨X.K, CR, P⟩ H M ds vs) (h : sp ds M Qd noX) (k : ∀ v H', LfV ⟨X.K, CR, P⟩ H M Qd v H' → Q v H') : lSp X.K CR sp vs H Q E0 :=
  ⟨P, ds, M, Qd, noX, rs, g, h, k, fun c d H' l => l.no⟩
theorem o_bin {op : Operator} {name : Str} {sp : DSp} (O : Op2 X.prog X.w X.K X.mg X.base CR name sp) (hn : name = PySem.dunder op.info.2) (hr : Room 38 X.A) (hc : PySem.W.selfFirst X.K CR = true) : OpR X (binaryOp op) (l2 X.K CR (r2 sp)) := by
  intro pins s σ H x y v u Q I rx ry ⟨P, a, b, M, Qd, ra, rb, g, ⟨p, q, ea, eb, h⟩, k⟩
  subst ea; subst eb; subst hn
  obtain ⟨f, fd, F, hb, hs, hf⟩ := O.ex
  have rs : Reps ⟨X.K, CR, P⟩ H M [.rat p, .rat q] [x, y] := ⟨_, _, rfl, ra, _, _, rfl, rb, rfl⟩
  obtain ⟨a, dx, rfl, _, ha⟩ := ra
  obtain ⟨b, dy, rfl, _, hb'⟩ := rb
  obtain rfl : v = Value.ref a := rx
  obtain rfl : u = Value.ref b := ry
  obtain ⟨mA, J, _⟩ := ins_get I.hok ha
  obtain ⟨mB, J', _⟩ := ins_get I.hok hb'
  obtain ⟨od, J, _⟩ := J.look
  obtain ⟨od', J', _⟩ := J'.look
  obtain ⟨m, hF⟩ := I.fr
  refine PySem.W.binop_K hF I.ok.mod.kin J J'.type hc hs hf ?_
  exact wpAny_mono (run_fn (vs := [.ref a, .ref b]) (us := [.ref a, .ref b]) (dvs := []) F hr hb .nil passL I (.cons rfl (.cons rfl .nil)) (lSp_of g rs h k)) (fun r s' q => cmpBack (H := H) q) fun _ _ z => z
theorem o_cmpR {op : CmpOp} {name : Str} {sp : DSp} (O : Op2 X.prog X.w X.K X.mg X.base CR name sp) (hn : name = (cmpInfo op).2.1) (hr : Room 38 X.A) : OpR X (richCompare op) (l2 X.K CR (r2 sp)) := by
  intro pins s σ H x y v u Q I rx ry ⟨P, a, b, M, Qd, ra, rb, g, ⟨p, q, ea, eb, h⟩, k⟩
  subst ea; subst eb; subst hn
  obtain ⟨f, fd, F, hb, hs, hf⟩ := O.ex
  have rs : Reps ⟨X.K, CR, P⟩ H M [.rat p, .rat q] [x, y] := ⟨_, _, rfl, ra, _, _, rfl, rb, rfl⟩
  obtain ⟨a, dx, rfl, _, ha⟩ := ra
  obtain ⟨b, dy, rfl, _, hb'⟩ := rb
  obtain rfl : v = Value.ref a := rx
  obtain rfl : u = Value.ref b := ry
  obtain ⟨mA, J, _⟩ := ins_get I.hok ha
  obtain ⟨mB, J', _⟩ := ins_get I.hok hb'
  obtain ⟨od, J, _⟩ := J.look
  obtain ⟨od', J', _⟩ := J'.look
  obtain ⟨m, hF⟩ := I.fr
  refine PySem.W.cmp_K hr.units0 hF I.ok.mod.kin J J'.type (by simp [PySem.W.notFirst]) hs hf ?_
  exact wpAny_mono (run_fn (vs := [.ref a, .ref b]) (us := [.ref a, .ref b]) (dvs := []) F hr hb .nil passL I (.cons rfl (.cons rfl .nil)) (lSp_of g rs h k)) (fun r s' q => cmpBack (H := H) q) fun _ _ z => z
def r1 (sp : DSp) : D1 := fun a M Q => ∃ p, a = .rat p ∧ sp [.rat p] M Q noX
theorem o_negR {sp : DSp} (O : Op1 X.prog X.w X.K X.mg X.base CR "__neg__" sp) (hr : Room 38 X.A) : UnR X (unaryOp .USub) (l1 X.K CR (r1 sp)) := by
  intro pins s σ H x v Q I rx ⟨P, a, M, Qd, ra, g, ⟨p, ea, h⟩, k⟩
  subst ea
  obtain ⟨f, fd, F, hb, hs, hf⟩ := O.ex
  have rs : Reps ⟨X.K, CR, P⟩ H M [.rat p] [x] := ⟨_, _, rfl, ra, rfl⟩
  obtain ⟨a, dx, rfl, _, ha⟩ := ra
  obtain rfl : v = Value.ref a := rx
  obtain ⟨mA, J, _⟩ := ins_get I.hok ha
  obtain ⟨od, J, _⟩ := J.look
  obtain ⟨m, hF⟩ := I.fr
  refine PySem.W.ksp_neg hF I.ok.mod.kin J hs hf ?_
  exact run_fn (vs := [.ref a]) (us := [.ref a]) (dvs := []) F hr hb .nil passL I (.cons rfl .nil) (lSp_of g rs h k)
end
/-! ### what the methods promise -/
def Sm (q : Rat) : Prop := Bt 16000000 q
def sp_add : DSp := fun ds M Q _ => ∃ p q, ds = [.rat p, .rat q] ∧ Sm p ∧ Sm q ∧ Q (.rat (p + q)) M
def sp_sub : DSp := fun ds M Q _ => ∃ p q, ds = [.rat p, .rat q] ∧ Sm p ∧ Sm q ∧ Q (.rat (p - q)) M
def sp_mul : DSp := fun ds M Q _ => ∃ p q, ds = [.rat p, .rat q] ∧ Sm p ∧ Sm q ∧ Q (.rat (p * q)) M
def sp_neg : DSp := fun ds M Q _ => ∃ p, ds = [.rat p] ∧ Sm p ∧ Q (.rat (-p)) M
def sp_abs : DSp := fun ds M Q _ => ∃ p, ds = [.rat p] ∧ Sm p ∧ Q (.rat p.abs) M
def sp_lt : DSp := fun ds M Q _ => ∃ p q, ds = [.rat p, .rat q] ∧ Sm p ∧ Sm q ∧ Q (.bl (decide (p < q))) M
def sp_le : DSp := fun ds M Q _ => ∃ p q, ds = [.rat p, .rat q] ∧ Sm p ∧ Sm q ∧ Q (.bl (decide (p ≤ q))) M
def sp_gt : DSp := fun ds M Q _ => ∃ p q, ds = [.rat p, .rat q] ∧ Sm p ∧ Sm q ∧ Q (.bl (decide (q < p))) M
def sp_ge : DSp := fun ds M Q _ => ∃ p q, ds = [.rat p, .rat q] ∧ Sm p ∧ Sm q ∧ Q (.bl (decide (q ≤ p))) M
/-- a fraction and another thing: == -/
def eqB (p : Rat) : D → Option Bool
  | .rat q => some (decide (p = q))
  | .int _ => some false
  | .str _ => some false
  | .non => some false
  | .bl _ => some false
  | _ => none
def sp_eq : DSp := fun ds M Q _ => ∃ p d r, ds = [.rat p, d] ∧ eqB p d = some r ∧ Q (.bl r) M
/-! ### the class as the rules want it -/
def tyNs : List String := ["int", "bool", "str", "tuple", "list", "NoneType"]
structure IsF (K : PySem.W.Frag) (CR : Addr) : Prop where
  cc : PySem.W.findIn K (.ref CR) "__class__" = some (some (.builtin "object.__class__"))
  cg : PySem.W.specialIn K (.builtin "object.__class__") "__get__" = some (some (.builtin "getset_descriptor.__get__"))
  ct : PySem.W.takesIn K (.builtin "object.__class__") = some true
  cm : PySem.W.mroIn K CR (.type "object") = some true
  ne : PySem.W.findIn K (.ref CR) "__ne__" = some (some (.builtin "object.__ne__"))
  no : ∀ n, n ∈ tyNs → PySem.W.kitOne K (.type n) (.ref CR) = some false
  nt : ∀ n, n ∈ tyNs → PySem.W.kitOne K (.ref CR) (.type n) = some false
structure RatT0 (P : Program) (w : World) (K : PySem.W.Frag) (mg : Str → Option Value) (base : Heap) (CR : Addr) : Prop where
  cls : Cls K CR
  nt : NoAttr K CR "top"
  nb : NoAttr K CR "bottom"
  g : mg "Ratio" = some (.ref CR)
  first : PySem.W.selfFirst K CR = true
  isf : IsF K CR
  ini : MkOk P w K mg base CR
structure RatT (P : Program) (w : World) (K : PySem.W.Frag) (mg : Str → Option Value) (base : Heap) (CR : Addr) : Prop extends RatT0 P w K mg base CR where
  add : Op2 P w K mg base CR "__add__" sp_add
  sub : Op2 P w K mg base CR "__sub__" sp_sub
  mul : Op2 P w K mg base CR "__mul__" sp_mul
  neg : Op1 P w K mg base CR "__neg__" sp_neg
  eq : Op2 P w K mg base CR "__eq__" sp_eq
  lt : Op2 P w K mg base CR "__lt__" sp_lt
  le : Op2 P w K mg base CR "__le__" sp_le
  gt : Op2 P w K mg base CR "__gt__" sp_gt
  ge : Op2 P w K mg base CR "__ge__" sp_ge
  abs : Op1 P w K mg base CR "__abs__" sp_abs
def rAdd : D2 := fun a b M Q => match a, b with
  | .rat p, .rat q => Sm p ∧ Sm q ∧ Q (.rat (p + q)) M
  | a, b => rAddP a b M Q
def rSub : D2 := fun a b M Q => match a, b with
  | .rat p, .rat q => Sm p ∧ Sm q ∧ Q (.rat (p - q)) M
  | a, b => rSubI a b M Q
def rMul : D2 := fun a b M Q => match a, b with
  | .rat p, .rat q => Sm p ∧ Sm q ∧ Q (.rat (p * q)) M
  | .lst xs, .int n => -(2 ^ 63) ≤ n ∧ n < 2 ^ 63 ∧ xs.length * n.toNat ≤ sizeLine ∧ Q (.lst (List.replicate n.toNat xs).flatten) M
  | a, b => rMulI a b M Q
theorem reps_rep {O : Own} {H M} {ds : List D} {vs : List V} (h : Reps O H M ds vs) : ∀ n : Nat, Reps O H M (List.replicate n ds).flatten (List.replicate n vs).flatten
  | 0 => rfl
  | n + 1 => by rw [List.replicate_succ, List.replicate_succ, List.flatten_cons, List.flatten_cons]; exact h.append (reps_rep h n)
def rNegA : D1 := fun a M Q => match a with
  | .rat p => Sm p ∧ Q (.rat (-p)) M
  | a => rNeg a M Q
def rEqA : D2 := fun a b M Q => match a with
  | .rat p => ∃ r, eqB p b = some r ∧ Q (.bl r) M
  | a => rEqP a b M Q
def rLtA : D2 := fun a b M Q => match a, b with
  | .rat p, .rat q => Sm p ∧ Sm q ∧ Q (.bl (decide (p < q))) M
  | a, b => rLt a b M Q
def rLeA : D2 := fun a b M Q => match a, b with
  | .rat p, .rat q => Sm p ∧ Sm q ∧ Q (.bl (decide (p ≤ q))) M
  | a, b => rLe a b M Q
def rGtA : D2 := fun a b M Q => match a, b with
  | .rat p, .rat q => Sm p ∧ Sm q ∧ Q (.bl (decide (q < p))) M
  | a, b => rGt a b M Q
def rGeA : D2 := fun a b M Q => match a, b with
  | .rat p, .rat q => Sm p ∧ Sm q ∧ Q (.bl (decide (q ≤ p))) M
  | a, b => rGe a b M Q
section
variable {X : Cx} {CR : Addr} {pins : List (Addr × Obj)} {σ : L2.St} {s : Shared} {k : Nat}
theorem IsF.sub {K : PySem.W.Frag} (c : IsF K CR) {n : String} (h : n ∈ tyNs) : PySem.W.notFirst K CR (.type n) = true := by
  have := c.no n h
  unfold PySem.W.kitOne PySem.W.kitCls at this
  rw [if_neg (by simp)] at this
  dsimp only at this
  split at this
  · unfold PySem.W.notFirst
    rw [this]; simp
  · cases this
/-- the second one's type -/
theorem eqB_look {P : Addr → Prop} {H M} {p : Rat} {d : D} {r : Bool} {y : V} {u : Value} (c : IsF X.K CR) (I : Inv X pins σ H s) (ry : RelV y u) (rb : Rep ⟨X.K, CR, P⟩ H M d y) (h : eqB p d = some r) :
    ∃ tb, PySem.W.Looks (model X.prog X.w) s.heap (typeOf u) tb ∧ PySem.W.notFirst X.K CR tb = true := by
  cases d with
  | rat q =>
    obtain ⟨b, dy, rfl, _, hb⟩ := rb
    obtain rfl : u = Value.ref b := ry
    obtain ⟨mB, J, _⟩ := ins_get I.hok hb
    obtain ⟨od, J, _⟩ := J.look
    exact ⟨_, J.type, by simp [PySem.W.notFirst]⟩
  | int i =>
    rw [show y = .int i from rb] at ry
    obtain ⟨t, rfl⟩ := (show ∃ t, u = Value.int i t from ry)
    exact ⟨.type "int", PySem.W.Looks.of_pure rfl, c.sub (by decide)⟩
  | str i =>
    rw [show y = .str i from rb] at ry
    obtain ⟨t, rfl⟩ := (show ∃ t, u = Value.str i t from ry)
    exact ⟨.type "str", PySem.W.Looks.of_pure rfl, c.sub (by decide)⟩
  | non =>
    rw [show y = .non from rb] at ry
    obtain rfl : u = Value.none := ry
    exact ⟨.type "NoneType", PySem.W.Looks.of_pure rfl, c.sub (by decide)⟩
  | bl i =>
    rw [show y = .bl i from rb] at ry
    obtain rfl : u = Value.bool i := ry
    exact ⟨.type "bool", PySem.W.Looks.of_pure rfl, c.sub (by decide)⟩
  | _ => cases h
theorem RatT.o_eq (T : RatT X.prog X.w X.K X.mg X.base CR) (hr : Room k X.A) (hk : 38 ≤ k := by decide) : OpR X (compareOp .Eq) (l2 X.K CR rEqA) := by
  intro pins s σ H x y v u Q I rx ry ⟨P, a, b, M, Qd, ra, rb, g, h, kk⟩
  cases a with
  | rat p =>
    obtain ⟨r, hq, h⟩ := h
    obtain ⟨f, fd, F, hb, hs, hf⟩ := T.eq.ex
    have rs : Reps ⟨X.K, CR, P⟩ H M [.rat p, b] [x, y] := ⟨_, _, rfl, ra, _, _, rfl, rb, rfl⟩
    obtain ⟨tb, lb, nf⟩ := eqB_look T.isf I ry rb hq
    obtain ⟨a, dx, rfl, _, ha⟩ := ra
    obtain rfl : v = Value.ref a := rx
    obtain ⟨mA, J, _⟩ := ins_get I.hok ha
    obtain ⟨od, J, _⟩ := J.look
    obtain ⟨m, hF⟩ := I.fr
    show wpAny (model X.prog X.w) X.A (richCompare .Eq (.ref a) u) (EP X pins σ Q) X.xe s
    refine PySem.W.cmp_K (op := .Eq) hr.units0 hF I.ok.mod.kin J lb nf hs hf ?_
    exact wpAny_mono (run_fn (vs := [.ref a, y]) (us := [.ref a, u]) (dvs := []) F (hr.mono hk) hb .nil passL I (.cons rfl (.cons ry .nil)) (lSp_of g rs ⟨p, b, r, rfl, hq, h⟩ kk)) (fun r s' q => cmpBack (H := H) q) fun _ _ z => z
  | _ => exact o_eqP hr.units pins s σ H x y v u Q I rx ry ⟨P, _, _, M, Qd, ra, rb, g, h, kk⟩
end
section
variable {X : Cx} {CR : Addr} {E : DXS} {W : WX} {pos : Pos} {k : Nat}
/-- one of two two-place rules, by the values -/
theorem op2_or {f : Value → Value → Sem Value} {ra rb r : D2} (h1 : OpR X f (l2 X.K CR ra)) (h2 : OpR X f (l2 X.K CR rb)) (h : ∀ a b M Q, r a b M Q → ra a b M Q ∨ rb a b M Q) : OpR X f (l2 X.K CR r) := (h1.or h2).imp fun x y H Q hh => by
  obtain ⟨P, a, b, M, Qd, r1, r2, g, q, k⟩ := hh
  rcases h a b M Qd q with q | q
  · exact .inl ⟨P, a, b, M, Qd, r1, r2, g, q, k⟩
  · exact .inr ⟨P, a, b, M, Qd, r1, r2, g, q, k⟩
def rRepD : D2 := fun a b M Q => ∃ xs n, a = .lst xs ∧ b = .int n ∧ -(2 ^ 63) ≤ n ∧ n < 2 ^ 63 ∧ xs.length * n.toNat ≤ sizeLine ∧ Q (.lst (List.replicate n.toNat xs).flatten) M
theorem o_repD : OpR X (binaryOp .Mult) (l2 X.K CR rRepD) := op_rep.imp fun x y H Q hh => by
  obtain ⟨P, a, b, M, Qd, ra, rb, gd, ⟨xs, n, rfl, rfl, h1, h2, h3, q⟩, k⟩ := hh
  obtain ⟨l, vs, rfl, f, rs⟩ := ra
  rw [show y = .int n from rb]
  exact ⟨l, n, vs, rfl, rfl, f.2, h1, h2, by rw [← rs.length]; exact h3, fun p hp => k _ _ (newL gd hp (reps_rep rs _) q)⟩
variable (T : RatT X.prog X.w X.K X.mg X.base CR) (hr : Room k X.A)
include T hr
theorem RatT.o_add (hk : 38 ≤ k := by decide) : OpR X (binaryOp .Add) (l2 X.K CR rAdd) := op2_or (o_bin T.add rfl (hr.mono hk) T.first) o_addP fun a b M Q h => by
  unfold rAdd at h; split at h
  · exact .inl ⟨_, _, rfl, rfl, _, _, rfl, h⟩
  · exact .inr h
theorem RatT.o_sub (hk : 38 ≤ k := by decide) : OpR X (binaryOp .Sub) (l2 X.K CR rSub) := op2_or (o_bin T.sub rfl (hr.mono hk) T.first) o_subI fun a b M Q h => by
  unfold rSub at h; split at h
  · exact .inl ⟨_, _, rfl, rfl, _, _, rfl, h⟩
  · exact .inr h
theorem RatT.o_mul (hk : 38 ≤ k := by decide) : OpR X (binaryOp .Mult) (l2 X.K CR rMul) := op2_or (op2_or (r := fun a b M Q => r2 sp_mul a b M Q ∨ rRepD a b M Q) (o_bin T.mul rfl (hr.mono hk) T.first) o_repD fun _ _ _ _ h => h) o_mulI fun a b M Q h => by
  unfold rMul at h; split at h
  · exact .inl (.inl ⟨_, _, rfl, rfl, _, _, rfl, h⟩)
  · exact .inl (.inr ⟨_, _, rfl, rfl, h⟩)
  · exact .inr h
theorem RatT.o_lt (hk : 38 ≤ k := by decide) : OpR X (compareOp .Lt) (l2 X.K CR rLtA) := op2_or (show OpR X (compareOp .Lt) _ from o_cmpR (op := .Lt) T.lt rfl (hr.mono hk)) _root_.DL.o_lt fun a b M Q h => by
  unfold rLtA at h; split at h
  · exact .inl ⟨_, _, rfl, rfl, _, _, rfl, h⟩
  · exact .inr h
theorem RatT.o_le (hk : 38 ≤ k := by decide) : OpR X (compareOp .LtE) (l2 X.K CR rLeA) := op2_or (show OpR X (compareOp .LtE) _ from o_cmpR (op := .LtE) T.le rfl (hr.mono hk)) _root_.DL.o_le fun a b M Q h => by
  unfold rLeA at h; split at h
  · exact .inl ⟨_, _, rfl, rfl, _, _, rfl, h⟩
  · exact .inr h
theorem RatT.o_gt (hk : 38 ≤ k := by decide) : OpR X (compareOp .Gt) (l2 X.K CR rGtA) := op2_or (show OpR X (compareOp .Gt) _ from o_cmpR (op := .Gt) T.gt rfl (hr.mono hk)) _root_.DL.o_gt fun a b M Q h => by
  unfold rGtA at h; split at h
  · exact .inl ⟨_, _, rfl, rfl, _, _, rfl, h⟩
  · exact .inr h
theorem RatT.o_ge (hk : 38 ≤ k := by decide) : OpR X (compareOp .GtE) (l2 X.K CR rGeA) := op2_or (show OpR X (compareOp .GtE) _ from o_cmpR (op := .GtE) T.ge rfl (hr.mono hk)) _root_.DL.o_ge fun a b M Q h => by
  unfold rGeA at h; split at h
  · exact .inl ⟨_, _, rfl, rfl, _, _, rfl, h⟩
  · exact .inr h
theorem RatT.o_neg (hk : 38 ≤ k := by decide) : UnR X (unaryOp .USub) (l1 X.K CR rNegA) := fun pins s σ H x v Q I rx hh => by
  obtain ⟨P, a, M, Qd, r1, g, q, k⟩ := hh
  unfold rNegA at q
  split at q
  · exact o_negR T.neg (hr.mono hk) pins s σ H x v Q I rx ⟨P, _, M, Qd, r1, g, ⟨_, rfl, _, rfl, q⟩, k⟩
  · exact o_negI pins s σ H x v Q I rx ⟨P, _, M, Qd, r1, g, q, k⟩
end
/-! ### isinstance(x, Ratio) -/
def IsRD : D → Mem → DK → Prop := fun d M Q => match d with
  | .rat _ => Q (.bl true) M
  | d => ∃ n, tyD d M = some n ∧ n ∈ tyNs ∧ Q (.bl false) M
theorem IsRD.cases {d : D} {M : Mem} {Q : DK} (h : IsRD d M Q) : (∃ q, d = .rat q ∧ Q (.bl true) M) ∨ ∃ n, tyD d M = some n ∧ n ∈ tyNs ∧ Q (.bl false) M := by
  unfold IsRD at h
  split at h
  · exact .inl ⟨_, rfl, h⟩
  · exact .inr h
def dIsR (w : DE) : DE := fun δ M Q => w δ M fun d M1 => IsRD d M1 Q
section
variable {X : Cx} {CR : Addr} {E : DXS} {W : WX} {pos p p2 : Pos}
theorem RatT0.d_isR {e : Expr} {w : DE} (T : RatT0 X.prog X.w X.K X.mg X.base CR) (hm : X.mg "isinstance" = none) (he : PD X (bs X CR E W) e w) (hg : Gl X "isinstance" := by rfl) (hg2 : Gl X "Ratio" := by rfl)
    (hs : starEach [e, .Name "Ratio" p2] X.env = (false, eval e X.env) :: starEach [.Name "Ratio" p2] X.env := by rfl) (hpl : (backTo pos (starEach [.Name "Ratio" p2] X.env)).any (·.1) = false := by rfl) :
    PD X (bs X CR E W) (.Call (.Name "isinstance" p) [e, .Name "Ratio" p2] [] pos) (dIsR w) := by
  refine (pe_callB call_isi hg hm (by decide +kernel) (pa_cons he (pa_cons (pe_glob (v := .ref CR) hg2 T.g rfl) pa_nil) hs) (he := hs) (hpl := hpl)).imp fun σ H Q h => ?_
  obtain ⟨P, δ, M, Qd, hS, g, x, w, k⟩ := h
  refine ⟨P, δ, M, _, hS, g, x, w, fun v H1 ⟨d, M1, z1, g1, r1, q⟩ => ?_⟩
  rcases q.cases with ⟨q0, rfl, q⟩ | ⟨n, hn, hm, q⟩
  · obtain ⟨a, dx, rfl, _, ea⟩ := r1
    exact ⟨.ref a, .ref CR, .ref CR, .ref CR, true, rfl, .own CR, .base (.ins ea T.cls T.isf.cc T.isf.cg T.isf.ct T.isf.cm), by simp [PySem.W.kitOne], k _ _ ⟨.bl true, M1, z1, g1, rfl, q⟩⟩
  · exact ⟨v, .ref CR, .type n, .ref CR, false, rfl, .own CR, tyD_ok g1 r1 hn, T.isf.no n hm, k _ _ ⟨.bl false, M1, z1, g1, rfl, q⟩⟩
/-! ### gcd -/
def rGcdD : DC := fun ds M Q => ∃ a b : Int, ds = [.int a, .int b] ∧ Q (.int ((Nat.gcd a.natAbs b.natAbs : Nat) : Int)) M
theorem d_gcd {x : Str} {e : Expr} {es : List Expr} {t : DA} (hm : X.mg x = some (.builtin "math.gcd")) (ha : PDA X (bs X CR E W) (e :: es) t) (hg : Gl X x := by rfl) (hdb : (x == ("__debug__" : Str)) = false := by decide)
    (he : starEach (e :: es) X.env = (false, eval e X.env) :: starEach es X.env := by rfl) (hpl : (backTo pos (starEach es X.env)).any (·.1) = false := by rfl) : PD X (bs X CR E W) (.Call (.Name x p) (e :: es) [] pos) (dCB rGcdD t) := by
  refine (pe_callBfun cr_gcd hg hm ha hdb he hpl).imp fun σ H Q h => ?_
  obtain ⟨P, δ, M, Qd, hS, g, x, w, k⟩ := h
  refine ⟨P, δ, M, _, hS, g, x, w, fun vs H1 ds M1 z1 g1 rs q => ?_⟩
  obtain ⟨a, b, rfl, q⟩ := q
  obtain ⟨v1, r1, rfl, h1, v2, r2, rfl, h2, h3⟩ := rs
  rw [show r2 = [] from h3, show v1 = .int _ from h1, show v2 = .int _ from h2]
  exact ⟨a, b, rfl, k _ _ ⟨.int _, M1, z1, g1, rfl, q⟩⟩
end
/-! ### sizes of products -/
theorem mulS {a b : Int} {n m : Nat} (ha : a.natAbs ≤ 2 ^ n) (hb : b.natAbs ≤ 2 ^ m) (hn : n < 60000000 := by decide) (hm : m < 60000000 := by decide) : IntMulOk a b := by
  have k : ∀ (x : Int) (i : Nat), x.natAbs ≤ 2 ^ i → i < 60000000 → Builtin.Int.intBits x ≤ 60000000 := fun x i hx hi => by
    refine Nat.le_trans (intBits_le_iff (m := i + 1).mpr (Nat.lt_of_le_of_lt hx (Nat.pow_lt_pow_right (by decide) (Nat.lt_succ_self i)))) ?_
    omega
  exact .of_le (k a n ha hn) (k b m hb hm) (by decide)
/-! ### facts of the head with a check of one's own -/
def obsC (ck : PySem.W.Frag → Bool) (fa : List He.Fa) (fn : List He.DefD) (K : PySem.W.Frag) : He.AlD := (ck K && (He.obsD fa fn K).1, (He.obsD fa fn K).2)
def obsCG (n : Nat) (ck : PySem.W.Frag → Bool) (fa : List He.Fa) (fn : List He.DefD) (g : Addr → Option Obj) : He.AlD := obsC ck fa fn (He.frG g (He.asD g n ++ [cStatics, sysModules]))
theorem obsC_ok {ck : PySem.W.Frag → Bool} {fa : List He.Fa} {fn : List He.DefD} {K : PySem.W.Frag} (e : obsC ck fa fn K = He.valD fn) : ck K = true ∧ He.SaysD fa fn K := by
  have e1 : (ck K && (He.obsD fa fn K).1) = true := congrArg (fun z : He.AlD => z.1) e
  have e2 : (obsC ck fa fn K).2 = (He.valD fn).2 := by rw [e]
  obtain ⟨a, b⟩ := He.ba e1
  exact ⟨a, Prod.ext b e2⟩
def hookC (n : Nat) (ck : PySem.W.Frag → Bool) (fa : List He.Fa) (fn : List He.DefD) : PySem.W.Hook where
  α := He.AlD
  obs s := obsCG n ck fa fn s.heap.get?
  val _ := He.valD fn
  says _ h := ∃ K : PySem.W.Frag, K.In h ∧ ck K = true ∧ He.SaysD fa fn K
  of _ _ e := ⟨_, He.frG_in, obsC_ok e⟩
  keeps _ _ _ := fun ⟨K, hK, c⟩ k => ⟨K, PySem.W.Frag.In.keeps hK k, c⟩
theorem obsCG_eq {n : Nat} {ck : PySem.W.Frag → Bool} {fa : List He.Fa} {fn : List He.DefD} {g : Addr → Option Obj} {s : Shared} (h : ∀ a, g a = s.heap.get? a) : obsCG n ck fa fn g = (hookC n ck fa fn).obs s := by
  have : g = s.heap.get? := funext h
  subst this; rfl
/-! ### x != y by the own == -/
section
open PySem.W
variable {prog : Program} {w : World} {A : Around} {E : Value → Shared → Prop} {s : Shared} {K : Frag} {x C L f : Addr} {h0 : Heap} {m : Str → Option Value} {ox : Obj} {od : Option Obj} {b tb : Value}
theorem ne_special (X : K.In s.heap) (I : InstAt s.heap x ox C od) (hn : findIn K (.ref C) "__ne__" = some (some (.builtin "object.__ne__"))) (hm : mroIn K C (.type "object") = some true) (hu : A.in1.units < cLine) {Q : Option Value → Shared → Prop}
    (h : wpAny (model prog w) A.in1 (callSpecialIfBound? (.ref x) "__eq__" [b]) (fun r s' => ∃ k, r = some (.bool k) ∧ Q (some (.bool (!k))) s') E s) : wpAny (model prog w) A (callSpecialIfBound? (.ref x) "__ne__" [b]) Q E s := by
  have S := PySem.F.slot_object_ne
  have inst : Looks (model prog w) s.heap (isInstance (.ref x) (.type "object")) true := I.type.andThen (looks_mroIn X hm)
  have call : wpAny (model prog w) A (call (.builtin "object.__ne__") [.ref x, b]) (fun v => Q (some v)) E s := by
    refine wpAny_call (codeAny_call_builtin S.plain PySem.F.cmpEntry_ne (check_slot PySem.F.cmpKind_ne PySem.F.cmpSplit_ne inst (PySem.F.cmpArgs_ne _ _) ?_))
    unfold Builtin.«object.__ne__»
    repeat (first | with_reducible refine wpAny_cRoomFor hu ?_ | with_reducible refine wpAny_mono h (fun r s' q => ?_) (fun _ _ z => z) | wp_step)
    obtain ⟨k, rfl, q⟩ := q
    repeat (first | with_reducible refine wpAny_truthy_bool ?_ | wp_step)
    exact q
  simp only [callSpecialIfBound?, bindSpecialIfBound?]
  refine wpAny_holding (wpAny_bind (wpAny_bind (wpAny_bind (I.type.here ((looks_findIn X hn).here ?_)))))
  refine wpAny_bind (wpAny_askSetting (wpAny_ite ?_))
  have fin : wpAny (model prog w) A (PySem.call (.builtin "object.__ne__") ([.ref x] ++ [b]) >>= fun v => pure (some v)) Q E s := wpAny_bind (wpAny_mono call (fun v s' h' => wpAny_pure h') fun _ _ h' => h')
  split
  · refine wpAny_bind ?_
    rw [S.bind]
    exact wpAny_pure (wpAny_pure (by exact fin))
  · refine wpAny_tryCatch (wpAny_bind ?_)
    rw [S.bind]
    exact wpAny_pure (wpAny_pure (by exact fin))
end
section
variable {X : Cx} {CR : Addr} {k : Nat}
def rNeA : D2 := fun a b M Q => match a with
  | .rat p => ∃ r, eqB p b = some r ∧ Q (.bl (!r)) M
  | a => rNeP a b M Q
theorem RatT.o_ne (T : RatT X.prog X.w X.K X.mg X.base CR) (hr : Room k X.A) (hk : 39 ≤ k := by decide) : OpR X (compareOp .NotEq) (l2 X.K CR rNeA) := by
  intro pins s σ H x y v u Q I rx ry ⟨P, a, b, M, Qd, ra, rb, g, h, kk⟩
  cases a with
  | rat p =>
    obtain ⟨r, hq, h⟩ := h
    obtain ⟨f, fd, F, hb, hs, hf⟩ := T.eq.ex
    have rs : Reps ⟨X.K, CR, P⟩ H M [.rat p, b] [x, y] := ⟨_, _, rfl, ra, _, _, rfl, rb, rfl⟩
    obtain ⟨tb, lb, nf⟩ := eqB_look T.isf I ry rb hq
    obtain ⟨a, dx, rfl, _, ha⟩ := ra
    obtain rfl : v = Value.ref a := rx
    obtain ⟨mA, J, _⟩ := ins_get I.hok ha
    obtain ⟨od, J, _⟩ := J.look
    obtain ⟨m, hF⟩ := I.fr
    have KX := I.kIn
    have hr3 : Room 38 X.A.in1 := (hr.mono hk).in1
    have e0 : Env0 X.prog X.w X.K X.mg X.base X.A.in1 X.stack s H := I.env0.in1
    have hsp : lSp X.K CR sp_eq [.ref a, y] H (fun v H' => v = .bl r ∧ Q (.bl (!r)) H') E0 := by
      refine lSp_of (Qd := fun d M' => d = .bl r ∧ Qd (.bl (!r)) M') g rs ⟨p, b, r, rfl, hq, rfl, h⟩ fun v H' ⟨d, M', z, g', r, e, q'⟩ => ?_
      subst e
      exact ⟨r, kk _ _ ⟨.bl _, M', z, g', rfl, q'⟩⟩
    have eqc : wpAny (model X.prog X.w) X.A.in1 (callSpecialIfBound? (.ref a) "__eq__" [u]) (fun r s' => ∃ k, r = some (.bool k) ∧ EP X pins σ Q (.bool (!k)) s') X.xe s := by
      refine PySem.W.ifBound_K KX J hs hf ?_
      refine wpAny_call (codeAny_mono (F.run X.A.in1 X.stack s H ⟨[.ref a, u], []⟩ [.ref a, u] [.ref a, y] _ E0 hr3 e0 (by simpa using hb s [.ref a, u] KX rfl) (.cons rfl (.cons ry .nil)) hsp) fun r s' hq => ?_)
      cases r with
      | error e => exact passL pins σ H s e s' I hq
      | ok fl =>
        cases fl with
        | ret w =>
          obtain ⟨z, H', I', rz, ez, q'⟩ := I.after hq
          subst ez
          obtain rfl : w = Value.bool _ := rz
          exact ⟨_, rfl, .bl _, H', I', rfl, q'⟩
        | next => exact False.elim hq
        | brk => exact False.elim hq
        | cont => exact False.elim hq
    show wpAny (model X.prog X.w) X.A (richCompare .NotEq (.ref a) u) (EP X pins σ Q) X.xe s
    have one : wpAny (model X.prog X.w) X.A (tryCompare (.ref a) "__ne__" u) (fun r s' => ∃ v, r = some v ∧ EP X pins σ Q v s') X.xe s := by
      unfold tryCompare
      refine wpAny_bind (ne_special KX J T.isf.ne T.isf.cm (hr.mono (show 1 ≤ k by omega)).in1.units0 (wpAny_mono eqc (fun r s' q => ?_) fun _ _ z => z))
      obtain ⟨j, rfl, q⟩ := q
      exact ⟨j, rfl, wpAny_pure ⟨_, rfl, q⟩⟩
    unfold richCompare
    simp only [oneThing_ref]
    refine wpAny_holding (wpAny_bind (wpAny_cRoomFor hr.units0 ?_))
    refine wpAny_bind (J.type.here (wpAny_bind (lb.here ?_)))
    split
    · rename_i q
      have e : PySem.W.subIn X.K tb (.ref CR) = some false := by
        rcases Bool.or_eq_true_iff.mp nf with e | e
        · rw [beq_iff_eq.mp e] at q; simp at q
        · exact beq_iff_eq.mp e
      refine wpAny_bind ((PySem.W.looks_subIn KX e).here ?_)
      simp only [Bool.false_eq_true, if_false]
      refine wpAny_bind (wpAny_mono one (fun r s' z => ?_) fun _ _ z => z)
      obtain ⟨v, rfl, hq⟩ := z
      exact wpAny_pure hq
    · refine wpAny_bind (wpAny_pure ?_)
      simp only [Bool.false_eq_true, if_false]
      refine wpAny_bind (wpAny_mono one (fun r s' z => ?_) fun _ _ z => z)
      obtain ⟨v, rfl, hq⟩ := z
      exact wpAny_pure hq
  | _ => exact o_neP hr.units pins s σ H x y v u Q I rx ry ⟨P, _, _, M, Qd, ra, rb, g, h, kk⟩
end
/-! ### the class from the head's facts -/
def inCls (st : Stmt) (j : Nat) : Stmt := match st with
  | .ClassDef (body := b) .. => b.getD j (.Pass ⟨0, 0, 0, 0⟩)
  | s => s
/-- nobody watches: a division may go by pylong -/
def seerCk (K : PySem.W.Frag) : Bool :=
  PySem.W.nsOkIn K cStatics && (He.eqO (PySem.W.nsIn K cStatics "sys.audit-hooks") (some none) && (He.eqO (PySem.W.nsIn K cStatics "sys.dict") (some none) && (PySem.W.nsOkIn K sysModules && (He.eqO (PySem.W.nsIn K sysModules "_pylong") (some none) &&
  (match PySem.W.nsIn K mainGlobals "__builtins__" with
  | some (some (.ref bm)) => (match K.lookup bm with
    | some ⟨.type c, some d, _, _⟩ => decide (c = "module") && decide (d = builtinsNs)
    | _ => false)
  | _ => false)))))
theorem seer_of {K : PySem.W.Frag} {mg : Str → Option Value} {base : Heap} (m : Mod K mg base) (c : seerCk K = true) : base.NoSeer := by
  obtain ⟨c1, c⟩ := He.ba c
  obtain ⟨c2, c⟩ := He.ba c
  obtain ⟨c3, c⟩ := He.ba c
  obtain ⟨c4, c⟩ := He.ba c
  obtain ⟨c5, c⟩ := He.ba c
  refine ⟨⟨_, .of_isNs (PySem.W.isNs_of_in m.kin c1), PySem.W.nsMap_none_of_in m.kin c1 (He.eqO_ok c2), PySem.W.nsMap_none_of_in m.kin c1 (He.eqO_ok c3)⟩, ⟨_, .of_isNs (PySem.W.isNs_of_in m.kin c4), PySem.W.nsMap_none_of_in m.kin c4 (He.eqO_ok c5)⟩, m.blt, ?_⟩
  split at c
  · rename_i bm e
    split at c
    · rename_i n d q z lk
      obtain ⟨d1, d2⟩ := He.ba c
      exact ⟨mg, bm, _, m.glob, PySem.W.mg_of m.kin m.glob e, m.kin _ _ lk, by rw [of_decide_eq_true d1], by rw [of_decide_eq_true d2]⟩
    · cases c
  · cases c
theorem pyR_of {X : Cx} (c : seerCk X.K = true) (pt : X.prog.given.tree = none) {k : Nat} (hr : Room k X.A) (hst : X.stack = X.env :: X.outer) (hg : X.env.scope.isGenerator = false) (hc : X.env.scope.isCoroutine = false) (hk : 35 ≤ k := by decide) : PyR X := fun pins σ H s I =>
  PylongRoom.of I.nolimit (by have := hr.dp; show X.A.depth + 100 < recursionLimit; omega) (SeerAt.of ((seer_of I.ok.mod c).keeps I.bk) pt (I.ok.frames.trans (congrArg some hst)) hg hc I.ok.blt I.ok.glob)
def ratCk0 (K : PySem.W.Frag) : Bool :=
  PySem.W.selfFirst K (He.ga K "Ratio") && (He.eqO (PySem.W.findIn K (.ref (He.ga K "Ratio")) "__class__") (some (some (.builtin "object.__class__"))) &&
  (He.eqO (PySem.W.specialIn K (.builtin "object.__class__") "__get__") (some (some (.builtin "getset_descriptor.__get__"))) && (decide (PySem.W.takesIn K (.builtin "object.__class__") = some true) &&
  (decide (PySem.W.mroIn K (He.ga K "Ratio") (.type "object") = some true) && (He.eqO (PySem.W.findIn K (.ref (He.ga K "Ratio")) "__ne__") (some (some (.builtin "object.__ne__"))) &&
  (tyNs.all (fun n => decide (PySem.W.kitOne K (.type n) (.ref (He.ga K "Ratio")) = some false) && decide (PySem.W.kitOne K (.ref (He.ga K "Ratio")) (.type n) = some false)) &&
  He.eqO (PySem.W.nsIn K mainGlobals "gcd") (some (some (.builtin "math.gcd")))))))))
def ratCk (K : PySem.W.Frag) : Bool := ratCk0 K && seerCk K
section
variable {P : Program} {w : World} {K : PySem.W.Frag} {mg : Str → Option Value} {base : Heap} {CR f : Addr} {fd : FuncData} {h : Heap}
theorem ratCk_seer (c : ratCk K = true) : seerCk K = true := (He.ba c).2
theorem ratCk_first (c : ratCk K = true) : PySem.W.selfFirst K (He.ga K "Ratio") = true := (He.ba (He.ba c).1).1
theorem ratCk_isf (c : ratCk K = true) : IsF K (He.ga K "Ratio") := by
  replace c := (He.ba c).1
  obtain ⟨_, c⟩ := He.ba c
  obtain ⟨c1, c⟩ := He.ba c
  obtain ⟨c2, c⟩ := He.ba c
  obtain ⟨c3, c⟩ := He.ba c
  obtain ⟨c4, c⟩ := He.ba c
  obtain ⟨c5, c⟩ := He.ba c
  obtain ⟨c6, c⟩ := He.ba c
  have c7 := List.all_eq_true.mp c6
  exact ⟨He.eqO_ok c1, He.eqO_ok c2, of_decide_eq_true c3, of_decide_eq_true c4, He.eqO_ok c5, fun n hn => of_decide_eq_true (He.ba (c7 n hn)).1, fun n hn => of_decide_eq_true (He.ba (c7 n hn)).2⟩
theorem ratCk_gcd (X : K.In h) (G : h.Ns mainGlobals mg) (c : ratCk K = true) : mg "gcd" = some (.builtin "math.gcd") := by
  replace c := (He.ba c).1
  obtain ⟨_, c⟩ := He.ba c
  obtain ⟨c1, c⟩ := He.ba c
  obtain ⟨c2, c⟩ := He.ba c
  obtain ⟨c3, c⟩ := He.ba c
  obtain ⟨c4, c⟩ := He.ba c
  obtain ⟨c5, c⟩ := He.ba c
  obtain ⟨c6, c⟩ := He.ba c
  exact PySem.W.mg_of X G (He.eqO_ok c)
theorem mkOk_of {x qual : Str} {st : Stmt} (F : FunD K x qual (defArgs st) (defBody st) (defScope st) [V.int 1] [] f fd) (mk : Mk K CR f) (ok : FnOk P w K mg base (L2.CX P w) 36 f fd ["self", "top", "bottom"] (lSp K CR (sp_init CR)))
    (h : ∀ (T : Addr) (kV doc pm : Value) (an : Option Addr) (cdv ct a b c d : Value), (∃ k, bindArgs (PySem.W.fnOf x qual (defArgs st) (defBody st) (defScope st) (.ref T) kV doc pm an cdv ct) ⟨[a, b, c], []⟩ = seqItems? (.ref T) >>= k ∧ k (some #[d]) = pure ((["self", "top", "bottom"] : List Str).zip [a, b, c])) ∧
      ∃ k, bindArgs (PySem.W.fnOf x qual (defArgs st) (defBody st) (defScope st) (.ref T) kV doc pm an cdv ct) ⟨[a, b], []⟩ = seqItems? (.ref T) >>= k ∧ k (some #[d]) = pure ((["self", "top", "bottom"] : List Str).zip [a, b, d])) : MkOk P w K mg base CR := by
  obtain ⟨ds, v0, b0⟩ := F.binds1 (ps := ["self", "top", "bottom"]) 3 1 (by simp) rfl (fun T kV doc pm an cdv ct us its h1 h2 => match us, its, h1, h2 with
    | [a, b, c], [d], _, _ => (h T kV doc pm an cdv ct a b c d).1)
  obtain ⟨es, v1, b1⟩ := F.binds1 (ps := ["self", "top", "bottom"]) 2 0 (by simp) rfl (fun T kV doc pm an cdv ct us its h1 h2 => match us, its, h1, h2 with
    | [a, b], [d], _, _ => (h T kV doc pm an cdv ct a b d d).2)
  cases v0
  match es, v1 with
  | [d1], v1 => exact ⟨f, fd, d1, mk, ok, b0, b1, v1⟩
theorem op2_of {x qual name : Str} {st : Stmt} {sp : DSp} (F : FunD K x qual (defArgs st) (defBody st) (defScope st) [] [] f fd) (m : Meth K CR name f) (ok : FnOk P w K mg base (L2.CX P w) 38 f fd ["self", "other"] (lSp K CR sp))
    (h : ∀ (kV doc pm : Value) (an : Option Addr) (cdv ct a b : Value), bindArgs (PySem.W.fnOf x qual (defArgs st) (defBody st) (defScope st) .none kV doc pm an cdv ct) ⟨[a, b], []⟩ = pure ((["self", "other"] : List Str).zip [a, b])) : Op2 P w K mg base CR name sp :=
  ⟨f, fd, ok, F.bindsN fun kV doc pm an cdv ct us hl => match us, hl with | [a, b], _ => h kV doc pm an cdv ct a b, m.at_, m.fn⟩
theorem op1_of {x qual name : Str} {st : Stmt} {sp : DSp} (F : FunD K x qual (defArgs st) (defBody st) (defScope st) [] [] f fd) (m : Meth K CR name f) (ok : FnOk P w K mg base (L2.CX P w) 38 f fd ["self"] (lSp K CR sp))
    (h : ∀ (kV doc pm : Value) (an : Option Addr) (cdv ct a : Value), bindArgs (PySem.W.fnOf x qual (defArgs st) (defBody st) (defScope st) .none kV doc pm an cdv ct) ⟨[a], []⟩ = pure ((["self"] : List Str).zip [a])) : Op1 P w K mg base CR name sp :=
  ⟨f, fd, ok, F.bindsN fun kV doc pm an cdv ct us hl => match us, hl with | [a], _ => h kV doc pm an cdv ct a, m.at_, m.fn⟩
end
section
variable {X : Cx} {CR : Addr} {E : DXS} {W : WX} {pos apos : Pos}
/-- x.bit_length() -/
def dBits (w : DE) : DE := fun δ M Q => w δ M fun d M1 => ∃ i : Int, d = .int i ∧ Q (.int (Builtin.Int.intBits i : Nat)) M1
theorem d_bits {o : Expr} {w : DE} (ho : PD X (bs X CR E W) o w) (hbase : attributeBase o "bit_length" X.env (eval o X.env) = eval o X.env := by rfl) (hline : (apos.endLine == pos.line) = true := by rfl) : PD X (bs X CR E W) (.Call (.Attribute o "bit_length" apos) [] [] pos) (dBits w) := by
  refine (pe_bits ho hbase hline).imp fun σ H Q h => ?_
  obtain ⟨P, δ, M, Qd, hS, g, x, w, k⟩ := h
  refine ⟨P, δ, M, _, hS, g, x, w, fun v H1 ⟨d, M1, z1, g1, r1, i, e, q⟩ => ?_⟩
  subst e
  rw [show v = .int i from r1]
  exact ⟨i, rfl, k _ _ ⟨.int _, M1, z1, g1, rfl, q⟩⟩
end
/-! ### abs(x) of an own instance -/
section
open PySem.W
variable {prog : Program} {w : World} {A : Around} {E : Value → Shared → Prop} {s : Shared} {K : Frag} {x C f : Addr} {ox : Obj} {od : Option Obj}
theorem abs_own {Q : Value → Shared → Prop} (X : K.In s.heap) (I : InstAt s.heap x ox C od) (hs : findIn K (.ref C) "__abs__" = some (some (.ref f))) (hf : isFn K (.ref f) = true)
    (h : wpAny (model prog w) A.in1 (PySem.call (.ref f) [.ref x]) Q E s) : wpAny (model prog w) A (PySem.call (.builtin "abs") [.ref x]) Q E s := by
  refine Calls.call_function_entry kind_abs plain_abs entry_abs (args_abs _) ?_
  unfold Builtin.«abs»
  refine wpAny_bind (m := oneArg "abs" _) (wpAny_pure ?_)
  refine wpAny_bind (m := callSpecial? (.ref x) (Str.ofString "__abs__")) (special_fn X I hs (beq_iff_eq.mp hf) (wpAny_mono h (fun r s' hr => ?_) fun _ _ y => y))
  exact wpAny_pure ⟨_, rfl, hr⟩
end
section
variable {X : Cx} {CR : Addr} {E : DXS} {W : WX} {pos p apos : Pos} {k : Nat}
def rAbsA : DC := fun ds M Q => match ds with
  | [.rat p] => Sm p ∧ Q (.rat p.abs) M
  | ds => rAbsI ds M Q
theorem RatT.c_abs (T : RatT X.prog X.w X.K X.mg X.base CR) (hr : Room k X.A) (hk : 39 ≤ k := by decide) : CallR X (.builtin "abs") (lC X.K CR rAbsA) := by
  intro pins s σ H xs us Q I rx ⟨P, ds, M, Qd, rs, g, h, kk⟩
  unfold rAbsA at h
  split at h
  · rename_i q
    obtain ⟨hs1, h⟩ := h
    obtain ⟨f, fd, F, hb, hs, hf⟩ := T.abs.ex
    have rs2 := rs
    obtain ⟨x, r0, rfl, ra, r1⟩ := rs
    obtain rfl : r0 = [] := r1
    obtain ⟨a, dx, rfl, _, ha⟩ := ra
    cases rx with
    | cons ru rn =>
      cases rn
      rename_i u
      obtain rfl : u = Value.ref a := ru
      obtain ⟨mA, J, _⟩ := ins_get I.hok ha
      obtain ⟨od, J, _⟩ := J.look
      refine abs_own I.kIn J hs hf ?_
      refine wpAny_call (codeAny_mono (F.run X.A.in1 X.stack s H ⟨[.ref a], []⟩ [.ref a] [.ref a] _ E0 (hr.mono hk).in1 I.env0.in1 (by simpa using hb s [.ref a] I.kIn rfl) (.cons rfl .nil) (lSp_of g rs2 ⟨q, rfl, hs1, h⟩ kk)) fun r s' hq => ?_)
      cases r with
      | error e => exact passL pins σ H s e s' I hq
      | ok fl =>
        cases fl with
        | ret w => exact I.after hq
        | next => exact False.elim hq
        | brk => exact False.elim hq
        | cont => exact False.elim hq
  · exact c_absI pins s σ H xs us Q I rx ⟨P, _, M, Qd, rs, g, h, kk⟩
/-! ### a method of a fraction -/
structure MethOk (P : Program) (w : World) (K : PySem.W.Frag) (mg : Str → Option Value) (base : Heap) (CR : Addr) (name : Str) (ps : List Str) (sp : DSp) : Prop where
  ex : ∃ f fd, FnOk P w K mg base (L2.CX P w) 38 f fd ps (lSp K CR sp) ∧ Binds K fd ps [] ∧ Meth K CR name f
def dMeth (sp : DSp) (wo : DE) (t : DA) : DE := fun δ M Q => wo δ M fun o M1 => ∃ q, o = .rat q ∧ t δ M1 fun ds M2 => sp (o :: ds) M2 Q noX
theorem d_meth {name : Str} {ps : List Str} {sp : DSp} {pl : Sem Bool} {o e : Expr} {es : List Expr} {wo : DE} {t : DA} (O : MethOk X.prog X.w X.K X.mg X.base CR name ps sp) (T : RatT X.prog X.w X.K X.mg X.base CR) (hr : Room k X.A) (ho : PD X (bs X CR E W) o wo) (ha : PDA X (bs X CR E W) (e :: es) t)
    (hn : ∀ q, (ratF q).lookup name = none := by intro _; rfl) (hk : 38 ≤ k := by decide)
    (hst : starEach (e :: es) X.env = (false, eval e X.env) :: starEach es X.env := by rfl) (hpl : (backTo pos (starEach es X.env)).any (·.1) = false := by rfl)
    (ht : eval (.Call (.Attribute o name apos) (e :: es) [] pos) X.env = (do
      let ov ← eval o X.env
      standAt apos.atName
      let (f, first) ← holding [ov] (getMethod ov name pl)
      callWith pos f first (backTo pos (starEach (e :: es) X.env)) (backToKw pos (keywordEach [] X.env))) := by rfl) : PD X (bs X CR E W) (.Call (.Attribute o name apos) (e :: es) [] pos) (dMeth sp wo t) := by
  obtain ⟨f, fd, F, hb, hm⟩ := O.ex
  refine (pe_meth ho T.cls hm F (hr.mono hk) hb .nil passL ha hst hpl ht).imp fun σ H Q h => ?_
  obtain ⟨P, δ, M, Qd, hS, g, x, w, kk⟩ := h
  refine ⟨P, δ, M, _, hS, g, x, w, fun v H1 ⟨d, M1, z1, g1, r1, q, ed, q1⟩ => ?_⟩
  subst ed
  have r1' := r1
  obtain ⟨a, dx, rfl, _, ea⟩ := r1
  refine ⟨a, dx, _, rfl, ea, hn q, P, δ, M1, _, hS.mono z1, g1, x.trans z1, q1, fun vs H2 ds M2 z2 g2 rs q2 => ?_⟩
  show lSp X.K CR sp (V.ref a :: (vs ++ [])) H2 Q E0
  rw [List.append_nil]
  exact lSp_of (ds := .rat q :: ds) g2 ⟨_, _, rfl, r1'.mono z2, rs⟩ q2 fun v H' l => kk v H' (l.trans (z1.trans z2))
def sp_over : DSp := fun ds M Q _ => ∃ p q, ds = [.rat p, .rat q] ∧ Sm p ∧ Sm q ∧ q ≠ 0 ∧ Q (.rat (p / q)) M
theorem meth_of {P : Program} {w : World} {K : PySem.W.Frag} {mg : Str → Option Value} {base : Heap} {CR f : Addr} {fd : FuncData} {x qual name : Str} {st : Stmt} {sp : DSp} {ps : List Str} (F : FunD K x qual (defArgs st) (defBody st) (defScope st) [] [] f fd) (m : Meth K CR name f) (ok : FnOk P w K mg base (L2.CX P w) 38 f fd ps (lSp K CR sp))
    (h : ∀ (kV doc pm : Value) (an : Option Addr) (cdv ct : Value) (us : List Value), us.length = ps.length → bindArgs (PySem.W.fnOf x qual (defArgs st) (defBody st) (defScope st) .none kV doc pm an cdv ct) ⟨us, []⟩ = pure (ps.zip us)) : MethOk P w K mg base CR name ps sp := ⟨f, fd, ok, F.bindsN h, m⟩
end
/-! ### errors that leave -/
theorem lfx_w {O : Own} {H M} {δ : DS0} {σ : L2.St} {E : DXS} {W : WX} (hS : RepS O H M δ σ) (x : XL O H M E W) : ∀ c d H', LfX O H M (fun C ns fs M' => E C ns fs δ M') c d H' → W c d σ H' := fun c d H' ⟨C, ns, fs, M', e, z, g, r, q⟩ => by
  exact x c d σ H' ⟨C, ns, fs, δ, M', e, z, g, hS.mono z, r, q⟩
theorem ErrD.mono {O : Own} {H M H' M'} {d : Option Addr} {ns : List Str} {fs : List D} (z : Fz O H M H' M') (h : ErrD O H M d ns fs) : ErrD O H' M' d ns fs := by
  rcases h with h | ⟨nn, dd, vs, e, f, eh, l, r⟩
  · exact .inl h
  · exact .inr ⟨nn, dd, vs, e, ⟨(z.st dd _ f eh).2, f.2⟩, (z.st dd _ f eh).1, l, r.mono z⟩
section
variable {X : Cx} {C : Addr} {bmB : List Value} {B newId initId : String}
/-- X(): an own error class without an __init__, called without arguments -/
theorem pmk_none {x : Str} {p pos : Pos} (F : ExcBaseFacts B newId initId bmB) (q : PySem.W.excIn X.K C bmB newId = true) (gC : X.mg x = some (.ref C)) (kC : PySem.W.keepIn X.K (.ref C) = true) (r : Raises X (.ref C)) (hg : Gl X x)
    (hdb : (x == ("__debug__" : Str)) = false := by decide) : PMk X (.Call (.Name x p) [] [] pos) (fun _ H Q => Q (.ref C) none H) := by
  intro pins s σ H Q I h
  refine wpAny_Call_Name_kw (ld_glob I hg gC ?_ hdb)
  refine PySem.W.callWith_K0 (first := []) I.kIn kC ?_
  obtain ⟨bm, N, nm, qn, bs, hdct, sn, sub, ab, col, dd, k0, k1, k2, k3, k5, mN, hC, hN, hni, T⟩ := exc_obj I.kIn q
  exact wpAny_call_exc_subT F T hC hN hni (fun h' e hm => mk_of I hm r h (I.hok.gone hm.new)) (Nat.zero_le _)
end
/-- what the text must hold of the error's class -/
structure ErrC (K : PySem.W.Frag) (mg : Str → Option Value) (x : Str) (Z : Addr) : Prop where
  q : PySem.W.excIn K Z He.veBase "ValueError.__new__" = true
  k : PySem.W.keepIn K (.ref Z) = true
  sub : PySem.W.subIn K (.ref Z) (.type "BaseException") = some true
  ty : PySem.W.typeIn K (.ref Z) = some (.type "type")
  g : mg x = some (.ref Z)
  self : PySem.W.exmOne K (.ref Z) (.ref Z) = some true
section
variable {X : Cx} {CR : Addr} {E : DXS} {W : WX} {pos p pos' : Pos}
def dRaise (Z : Addr) (E : DXS) : DSt := fun _ δ M => E Z [] [] δ M
theorem s_raise {x : Str} {Z : Addr} (c : ErrC X.K X.mg x Z) (tk : Takes X W) (hc : X.calm = true := by rfl) (hg : Gl X x := by rfl) (hdb : (x == ("__debug__" : Str)) = false := by decide) : PDS X (bs X CR E W) (.Raise (some (.Call (.Name x p) [] [] pos)) none pos') (dRaise Z E) := by
  refine (ps_raise hc tk (pmk_none PySem.F.excBase_ValueError c.q c.g c.k (raises_own c.sub c.ty) hg hdb)).imp fun Dn σ H h => ?_
  obtain ⟨P, δ, M, Dd, hS, g, x, w, k⟩ := h
  exact x (.ref Z) none σ H ⟨Z, [], [], δ, M, rfl, Fz.refl, g, hS, .inl ⟨rfl, rfl, rfl⟩, w⟩
/-- try: .. except Z: .. -/
def dTry (cat : Addr → Prop) (wb : DXS → DSt) (ws : DSt) : DSt := fun Dn δ M => wb (fun C ns fs δ' M' => cat C ∧ ws Dn δ' M') Dn δ M
theorem s_try {x : Str} {Z : Addr} {cat : Addr → Prop} {body suite : List Stmt} {b0 : Stmt} {np : Pos} {wb : DXS → DSt} {ws : DSt} (hcat : ∀ C, cat C → PySem.W.exmOne X.K (.ref C) (.ref Z) = some true) (hc : Names X x (.ref Z)) (tk : Takes X W)
    (hb : ∀ (E' : DXS) (W' : WX) (pn : List (Addr × Obj)) (xe : Value → Shared → Prop), Takes (X.tr pn xe) W' → PassesOwn (model X.prog X.w) X.A X.env xe → PDSs (X.tr pn xe) (bs X CR E' W') body (wb E'))
    (hsu : ∀ (a : Addr) (oe : Obj) (pn : List (Addr × Obj)), PDSs (X.suite a ((a, oe) :: pn)) (bs X CR noE noW) (b0 :: suite) ws)
    (hs : X.stack = X.env :: X.outer := by rfl) (hf : X.env.frame = some X.env.locals := by rfl) :
    PDS X (bs X CR E W) (.Try body [.ExceptHandler (some (.Name x np)) none (b0 :: suite) pos'] [] [] pos) (dTry cat wb ws) := by
  refine (ps_try_only (tb := fun W' Dn σ H => ∃ E', lS (bs X CR E' W') (wb E') Dn σ H) (ts := fun _ _ _ => lS (bs X CR noE noW) ws) (Wout := W) hs hf hc tk
    (fun W' pn xe tk' po => ⟨fun p s σ H Dn I ⟨E', q⟩ => (hb E' W' pn xe tk' po).run p s σ H Dn I q⟩) (fun a oe cls d pn _ _ => hsu a oe pn)).imp fun Dn σ H h => ?_
  obtain ⟨P, δ, M, Dd, hS, g, x, w, k⟩ := h
  refine ⟨fun C ns fs δ' M' => cat C ∧ ws Dd δ' M', P, δ, M, Dd, hS, g, ?_, w, k⟩
  rintro c d σ' H' ⟨C, ns, fs, δ', M', rfl, z, g', hS', er, hcc, hw⟩
  exact ⟨true, hcat C hcc, fun _ a ha => ⟨P, δ', M', Dd, hS', g', XL.no, hw, k.trans z⟩, fun e => by cases e⟩
end
/-! ### try: .. except Z as n: .. -/
section
variable {X : Cx} {CR : Addr} {E : DXS} {W : WX} {pos p p2 pos' : Pos}
def dTryAs (cat : Addr → Prop) (i : Nat) (wb : DXS → DSt) (ws : Addr → Addr → DSt) : DSt := fun Dn δ M => wb (fun C ns fs δ' M' => ns = [] ∧ cat C ∧ ∀ a, ws C a { nx := fun δ2 M2 => Dn.nx (δ2.set i none) M2, rt := Dn.rt, bk := fun δ2 M2 => Dn.bk (δ2.set i none) M2, ct := fun δ2 M2 => Dn.ct (δ2.set i none) M2 } (δ'.set i (some (.ref a))) M') Dn δ M
theorem s_tryAs {x n : Str} {Z : Addr} {i : Nat} {cat : Addr → Prop} {body suite : List Stmt} {b0 : Stmt} {np : Pos} {wb : DXS → DSt} {ws : Addr → Addr → DSt} (hcat : ∀ C, cat C → PySem.W.exmOne X.K (.ref C) (.ref Z) = some true) (hc : Names X x (.ref Z)) (tk : Takes X W) (hN : X.N.Nodup)
    (hb : ∀ (E' : DXS) (W' : WX) (pn : List (Addr × Obj)) (xe : Value → Shared → Prop), Takes (X.tr pn xe) W' → PassesOwn (model X.prog X.w) X.A X.env xe → PDSs (X.tr pn xe) (bs X CR E' W') body (wb E'))
    (hsu : ∀ (a : Addr) (oe : Obj) (C : Addr) (pn : List (Addr × Obj)), cat C → Zc (.ref C) none oe → (∃ vs, oe.data = .fields vs) → PDSs (X.suite a ((a, oe) :: pn)) (bs X CR noE noW) (b0 :: suite) (ws C a))
    (hi : X.N[i]? = some n := by rfl) (hln : X.env.kindOf n = some .local := by rfl) (hs : X.stack = X.env :: X.outer := by rfl) (hf : X.env.frame = some X.env.locals := by rfl) :
    PDS X (bs X CR E W) (.Try body [.ExceptHandler (some (.Name x np)) (some n) (b0 :: suite) pos'] [] [] pos) (dTryAs cat i wb ws) := by
  refine (ps_try_as (tb := fun W' Dn σ H => ∃ E', lS (bs X CR E' W') (wb E') Dn σ H) (ts := fun a cls d Dn σ H => ∃ C, cat C ∧ cls = .ref C ∧ d = none ∧ lS (bs X CR noE noW) (ws C a) Dn σ H) (Wout := W) hs hf hN hi hln hc tk
    (fun W' pn xe tk' po => ⟨fun p s σ H Dn I ⟨E', q⟩ => (hb E' W' pn xe tk' po).run p s σ H Dn I q⟩) (fun a oe cls d pn hz hv => ⟨fun p s σ H Dn I ⟨C, h1, h2, h3, q⟩ => by
      subst h2; subst h3
      exact (hsu a oe C pn h1 hz hv).run p s σ H Dn I q⟩)).imp fun Dn σ H h => ?_
  obtain ⟨P, δ, M, Dd, hS, g, x, w, k⟩ := h
  refine ⟨_, P, δ, M, Dd, hS, g, ?_, w, k⟩
  rintro c d σ' H' ⟨C, ns, fs, δ', M', rfl, z, g', hS', er, hns, hcc, hw⟩
  have hd : d = none := by
    rcases er with ⟨_, _, e⟩ | ⟨nn, _⟩
    · exact e
    · exact absurd hns nn
  have kt := k.trans z
  refine ⟨true, hcat C hcc, fun _ a ha => ⟨C, hcc, rfl, hd, P, _, M', _, hS'.set (d := .ref a) (v := .ref a) rfl, g', XL.no, hw a, ?_⟩, fun e => by cases e⟩
  exact ⟨fun σ H' ⟨δ2, M2, z2, g2, hS2, q⟩ => kt.nx _ H' ⟨_, M2, z2, g2, hS2.unset, q⟩, kt.rt, fun σ H' ⟨δ2, M2, z2, g2, hS2, q⟩ => kt.bk _ H' ⟨_, M2, z2, g2, hS2.unset, q⟩, fun σ H' ⟨δ2, M2, z2, g2, hS2, q⟩ => kt.ct _ H' ⟨_, M2, z2, g2, hS2.unset, q⟩⟩
/-- isinstance(e, c) of the caught error -/
def dIsE (w : DE) (a : Addr) (r : Bool) : DE := fun δ M Q => w δ M fun d M1 => d = .ref a ∧ Q (.bl r) M1
theorem d_isE {a D : Addr} {oe : Obj} {pn : List (Addr × Obj)} {e c : Expr} {w : DE} {cv : V} {u : Value} {r : Bool} (C : ExcC X.K D) (hz : Zc (.ref D) none oe) (hf : ∃ vs, oe.data = .fields vs) (hm : X.mg "isinstance" = none)
    (he : PD (X.suite a ((a, oe) :: pn)) (bs X CR noE noW) e w) (hcl : PE (X.suite a ((a, oe) :: pn)) c (tC cv)) (hu : ∀ u', RelV cv u' → u' = u) (hk : PySem.W.kitOne X.K (.ref D) u = some r) (hg : Gl X "isinstance" := by rfl)
    (hs : starEach [e, c] X.env = (false, eval e X.env) :: starEach [c] X.env := by rfl) (hs2 : starEach [c] X.env = (false, eval c X.env) :: starEach [] X.env := by rfl) (hpl : (backTo pos (starEach [c] X.env)).any (·.1) = false := by rfl) :
    PD (X.suite a ((a, oe) :: pn)) (bs X CR noE noW) (.Call (.Name "isinstance" p) [e, c] [] pos) (dIsE w a r) := by
  refine (pe_callB (call_isE C hz hf) hg hm (by decide +kernel) (pa_cons he (pa_cons hcl pa_nil hs2) hs) (he := hs) (hpl := hpl)).imp fun σ H Q h => ?_
  obtain ⟨P, δ, M, Qd, hS, g, x, w, k⟩ := h
  refine ⟨P, δ, M, _, hS, g, x, w, fun v H1 ⟨d, M1, z1, g1, r1, ed, q⟩ => ?_⟩
  subst ed
  rw [show v = .ref a from r1]
  exact ⟨cv, u, r, rfl, hu, hk, k _ _ ⟨.bl r, M1, z1, g1, rfl, q⟩⟩
end
structure ErrS (K : PySem.W.Frag) (mg : Str → Option Value) (Z S : Addr) : Prop where
  ec : ExcC K Z
  g : mg "SurveyError" = some (.ref S)
  s : PySem.W.kitOne K (.ref Z) (.ref S) = some true
  v : PySem.W.kitOne K (.ref Z) (.type "ValueError") = some true
  vf : mg "ValueError" = none
def zCk (K : PySem.W.Frag) : Bool :=
  He.eqO (PySem.W.findIn K (.ref (He.ga K "ZeroDivisor")) "__getattribute__") (some (some (.builtin "BaseException.__getattribute__"))) && (He.eqO (PySem.W.findIn K (.ref (He.ga K "ZeroDivisor")) "__getattr__") (some none) &&
  (decide (PySem.W.subIn K (.ref (He.ga K "ZeroDivisor")) (.type "BaseException") = some true) && (PySem.W.hasDictIn K (He.ga K "ZeroDivisor") && (He.eqO (PySem.W.findIn K (.ref (He.ga K "ZeroDivisor")) "__class__") (some (some (.builtin "object.__class__"))) &&
  (He.eqO (PySem.W.specialIn K (.builtin "object.__class__") "__get__") (some (some (.builtin "getset_descriptor.__get__"))) && (decide (PySem.W.takesIn K (.builtin "object.__class__") = some true) && (decide (PySem.W.mroIn K (He.ga K "ZeroDivisor") (.type "object") = some true) &&
  (He.eqO (PySem.W.nsIn K mainGlobals "SurveyError") (some (some (.ref (He.ga K "SurveyError")))) && (decide (PySem.W.kitOne K (.ref (He.ga K "ZeroDivisor")) (.ref (He.ga K "SurveyError")) = some true) &&
  (decide (PySem.W.kitOne K (.ref (He.ga K "ZeroDivisor")) (.type "ValueError") = some true) && He.eqO (PySem.W.nsIn K mainGlobals "ValueError") (some none)))))))))))
theorem zCk_ok {K : PySem.W.Frag} {h : Heap} {mg : Str → Option Value} (X : K.In h) (G : h.Ns mainGlobals mg) (c : zCk K = true) : ErrS K mg (He.ga K "ZeroDivisor") (He.ga K "SurveyError") := by
  obtain ⟨c1, c⟩ := He.ba c
  obtain ⟨c2, c⟩ := He.ba c
  obtain ⟨c3, c⟩ := He.ba c
  obtain ⟨c4, c⟩ := He.ba c
  obtain ⟨c5, c⟩ := He.ba c
  obtain ⟨c6, c⟩ := He.ba c
  obtain ⟨c7, c⟩ := He.ba c
  obtain ⟨c8, c⟩ := He.ba c
  obtain ⟨c9, c⟩ := He.ba c
  obtain ⟨c10, c⟩ := He.ba c
  obtain ⟨c11, c12⟩ := He.ba c
  exact ⟨⟨He.eqO_ok c1, He.eqO_ok c2, of_decide_eq_true c3, c4, He.eqO_ok c5, He.eqO_ok c6, of_decide_eq_true c7, of_decide_eq_true c8⟩, PySem.W.mg_of X G (He.eqO_ok c9), of_decide_eq_true c10, of_decide_eq_true c11, PySem.W.mg_none_of X G (He.eqO_ok c12)⟩
/-! ### a def that may raise -/
section
variable {P : Program} {w : World} {K : PySem.W.Frag} {mg : Str → Option Value} {base : Heap} {CR : Addr}
theorem okDX {x qual : Str} {st : Stmt} {f : Addr} {fd : FuncData} {N ps : List Str} {k : Nat} {sp : DSp} {wd : DXS → DSt} {dvs : List V} {kws : List (Str × V)} (F : FunD K x qual (defArgs st) (defBody st) (defScope st) dvs kws f fd) (S : FnScope N ps (defScope st))
    (der : ∀ (cdv : Value) (A : Around) (outer : List Env) (s : Shared) (H : Hp) (E : XK) (E' : DXS) (W : WX), Room k (A.deeper (envOfC qual (defScope st) s.heap.objs.size f cdv)) → Takes (cxOf (L2.CX P w) P w K mg base N qual (defScope st) f cdv A outer s H E) W →
      PDSs (cxOf (L2.CX P w) P w K mg base N qual (defScope st) f cdv A outer s H E) ⟨K, CR, E', W⟩ (defBody st) (wd E'))
    (len : ∀ ds M Q E, sp ds M Q E → ds.length = ps.length)
    (rd : ∀ ds M Q E, sp ds M Q E → wd (fun C ns fs _ M' => E C ns fs M') { nx := fun _ M' => Q .non M', rt := Q } (startD N.length ds) M) : FnOk P w K mg base (L2.CX P w) (k + 1) f fd ps (lSp K CR sp) := by
  refine F.ok S (fun vs H Q E h => ?_) (fun cdv A outer s H vs Q E hr h => ?_)
  · obtain ⟨P, ds, M, Qd, Ed, r, g, h, _⟩ := h
    rw [← r.length]
    exact len _ _ _ _ h
  · obtain ⟨P', ds, M, Qd, Ed, r, g, h, k1, k2⟩ := h
    refine ⟨lS ⟨K, CR, fun C ns fs _ M' => Ed C ns fs M', fun c d _ H' => E c d H'⟩ (wd fun C ns fs _ M' => Ed C ns fs M'), der cdv A outer s H E _ _ hr (takes_of rfl rfl rfl rfl), ?_⟩
    exact ⟨P', _, M, _, reps_start r, g, fun c d σ' H' ⟨C, ns, fs, δ', M', e, z, g', _, er, q⟩ => k2 c d H' ⟨C, ns, fs, M', e, z, g', er, q⟩, rd ds M Qd Ed h, ⟨fun σ H' ⟨δ', M', z, g', _, q⟩ => k1 .non H' ⟨.non, M', z, g', rfl, q⟩, k1, fun _ _ ⟨_, _, _, _, _, q⟩ => q.elim, fun _ _ ⟨_, _, _, _, _, q⟩ => q.elim⟩⟩
end
/-! ### Ratio(..) that may raise -/
def sp_initX (CR Z : Addr) : DSp := fun ds M Q Ex => ∃ (p : Addr) (a b : Int), ds = [.ref p, .int a, .int b] ∧ M p = some (.ins CR [] []) ∧ (b = 0 → Ex Z [] [] M) ∧
  (b ≠ 0 → szB b ∧ Q .non (mput M p (.ins CR ["top", "bottom"] [.int (Rat.divInt a b).num, .int (Rat.divInt a b).den])))
def MkXD (Z : Addr) : List D → Mem → DK → DX → Prop := fun ds M Q Ex => match ds with
  | [.int a] => Q (.rat (a : Rat)) M
  | [.int a, .int b] => (b = 0 → Ex Z [] [] M) ∧ (b ≠ 0 → szB b ∧ Q (.rat (Rat.divInt a b)) M)
  | _ => False
def dMkX (Z : Addr) (E : DXS) (t : DA) : DE := fun δ M Q => t δ M fun ds M1 => MkXD Z ds M1 Q fun C ns fs M' => E C ns fs δ M'
structure MkOkX (P : Program) (w : World) (K : PySem.W.Frag) (mg : Str → Option Value) (base : Heap) (CR Z : Addr) : Prop where
  ex : ∃ f fd d1, Mk K CR f ∧ FnOk P w K mg base (L2.CX P w) 36 f fd ["self", "top", "bottom"] (lSp K CR (sp_initX CR Z)) ∧ Binds K fd ["self", "top", "bottom"] [] ∧ Binds K fd ["self", "top", "bottom"] [d1] ∧ Vals [V.int 1] [d1]
theorem MkXD.cases {Z : Addr} {ds : List D} {M : Mem} {Q : DK} {Ex : DX} (h : MkXD Z ds M Q Ex) : ∃ (a b : Int), (ds = [.int a, .int b] ∨ (ds = [.int a] ∧ b = 1)) ∧ (b = 0 → Ex Z [] [] M) ∧ (b ≠ 0 → szB b ∧ Q (.rat (Rat.divInt a b)) M) := by
  unfold MkXD at h
  split at h
  · exact ⟨_, 1, .inr ⟨rfl, rfl⟩, fun e => absurd e (by decide), fun _ => ⟨trivial, by rw [q_int]; exact h⟩⟩
  · exact ⟨_, _, .inl rfl, h⟩
  · exact h.elim
section
variable {X : Cx} {CR Z : Addr} {E : DXS} {W : WX} {pos p apos : Pos} {e : Expr} {es : List Expr} {t : DA}
theorem run_makeS {CX : CXT} {k : Nat} {f C : Addr} {fd : FuncData} {ps : List Str} {sp : Sp} {dvs : List V} {ds : List Value} {Ex : XK} {pins : List (Addr × Obj)} {σ : L2.St} {H : Hp} {s : Shared} {Q : VK} {us : List Value} {vs : List V} (M : Mk X.K C f) (F : FnOk X.prog X.w X.K X.mg X.base CX k f fd ps sp) (hr : Room (k + 1) X.A)
    (hb : Binds X.K fd ps ds) (hd : Vals dvs ds) (hx : PassesAt CX X σ Ex) (I : Inv X pins σ H s) (r : Vals vs us)
    (h : ∀ x dx, H x = none → H dx = none → dx ≠ x → sp (.ref x :: (vs ++ dvs)) (upd (upd H dx (.own x)) x (.ins C dx [])) (fun v H2 => v = .non ∧ Q (.ref x) H2) Ex) :
    (wpAny (model X.prog X.w) X.A (call (.ref C) us) (EP X pins σ Q) X.xe s) := by
  have hz := h (s.heap.objs.size + 1) s.heap.objs.size (I.hok.fresh (Nat.le_succ _)) (I.hok.fresh (Nat.le_refl _)) (Nat.ne_of_lt (Nat.lt_succ_self _))
  have J2 := Inv.made (C := C) I
  have r2 : Vals (V.ref (s.heap.objs.size + 1) :: (vs ++ dvs)) (Value.ref (s.heap.objs.size + 1) :: (us ++ ds)) := (.cons rfl (r.append hd))
  have hl : (Value.ref (s.heap.objs.size + 1) :: us ++ ds).length = ps.length := by
    rw [← F.len _ _ _ _ hz]; exact r2.length.symm
  refine wpAny_call (make_map (f := f) I.kIn M.makes M.init (beq_iff_eq.mp M.fn) (codeAny_mono
    (F.run _ X.stack _ _ ⟨Value.ref (s.heap.objs.size + 1) :: us, []⟩ (Value.ref (s.heap.objs.size + 1) :: (us ++ ds)) _ _ Ex (hr.make C us []) (J2.env0.make C us []) (hb _ (Value.ref (s.heap.objs.size + 1) :: us) J2.kIn hl) r2 hz) fun r s' hw' => ?_))
  cases r with
  | error e => exact hx pins _ _ e s' J2 hw'
  | ok fl =>
    cases fl with
    | ret u =>
      obtain ⟨v, H', I3, rv, ev, q3⟩ := J2.after hw'
      subst ev
      exact ⟨rv, V.ref (s.heap.objs.size + 1), H', I3, rfl, q3⟩
    | next => exact False.elim hw'
    | brk => exact False.elim hw'
    | cont => exact False.elim hw'
theorem make_endX {P : Addr → Prop} {H M} {Q : VK} {Ex : XK} {Qd : DK} {Ed : DX} {vs dvs : List V} {a b : Int} (g : Good ⟨X.K, CR, P⟩ H M) (rs : Reps ⟨X.K, CR, P⟩ H M [.int a, .int b] (vs ++ dvs)) (h0 : b = 0 → Ed Z [] [] M) (h1 : b ≠ 0 → szB b ∧ Qd (.rat (Rat.divInt a b)) M)
    (k : ∀ v H', LfV ⟨X.K, CR, P⟩ H M Qd v H' → Q v H') (kx : ∀ c d H', LfX ⟨X.K, CR, P⟩ H M Ed c d H' → Ex c d H') : ∀ x dx, H x = none → H dx = none → dx ≠ x →
      lSp X.K CR (sp_initX CR Z) (.ref x :: (vs ++ dvs)) (upd (upd H dx (.own x)) x (.ins CR dx [])) (fun v H2 => v = .non ∧ Q (.ref x) H2) Ex := by
  intro x dx hx hd hne
  have z1 : Fz ⟨X.K, CR, P⟩ H M (upd H dx (.own x)) M := fz_new g hd
  have g1 : Good ⟨X.K, CR, P⟩ (upd H dx (.own x)) M := good_new g hd
  have hx1 : upd H dx (.own x) x = none := by rw [upd_ne (Ne.symm hne)]; exact hx
  have z2 : Fz ⟨X.K, CR, P⟩ (upd H dx (.own x)) M (upd (upd H dx (.own x)) x (.ins CR dx [])) (mput M x (.ins CR [] [])) := fz_newM g1 hx1
  have fx := g.none hx
  have g2 : Good ⟨X.K, CR, P⟩ (upd (upd H dx (.own x)) x (.ins CR dx [])) (mput M x (.ins CR [] [])) := good_put g1 fx.2 z2 ⟨dx, [], upd_same, rfl, rfl⟩
  refine ⟨P, .ref x :: [.int a, .int b], mput M x (.ins CR [] []), fun d M2 => d = .non ∧ M2 = mput M x (.ins CR ["top", "bottom"] [.int (Rat.divInt a b).num, .int (Rat.divInt a b).den]) ∧ Qd (.rat (Rat.divInt a b)) M, fun C ns fs M2 => M2 = mput M x (.ins CR [] []) ∧ Ed C ns fs M, ⟨_, _, rfl, rfl, (rs.mono z1).mono z2⟩, g2,
    ⟨x, a, b, rfl, mput_same, fun e => ⟨rfl, h0 e⟩, fun e => ⟨(h1 e).1, rfl, by rw [mput_mput], (h1 e).2⟩⟩, ?_, ?_⟩
  · rintro v H' ⟨d, M2, z, g3, r, rfl, rfl, q⟩
    refine ⟨r, k _ _ ⟨.rat (Rat.divInt a b), mdel _ x, ((z1.trans z2).trans z).trans fz_del, good_del g3, ?_, by rw [mdel_mput fx.1]; exact q⟩⟩
    obtain ⟨dx', ws, e1, l1, rw1⟩ := g3.at_ x _ mput_same
    obtain ⟨v1, r1, rfl, h1, v2, r2, rfl, h2, h3⟩ := rw1
    rw [show r2 = [] from h3, show v1 = .int _ from h1, show v2 = .int _ from h2] at e1
    exact ⟨x, dx', rfl, ⟨mdel_same, fx.2⟩, e1⟩
  · rintro c d H' ⟨C, ns, fs, M2, e, z, g3, er, rfl, q⟩
    refine kx c d H' ⟨C, ns, fs, mdel _ x, e, ((z1.trans z2).trans z).trans fz_del, good_del g3, er.mono fz_del, by rw [mdel_mput fx.1]; exact q⟩
theorem MkOkX.d_mkX {x : Str} (T : MkOkX X.prog X.w X.K X.mg X.base CR Z) (hm : X.mg x = some (.ref CR)) (hr : Room 37 X.A) (tk : Takes X W) (ha : PDA X (bs X CR E W) (e :: es) t) (hg : Gl X x := by rfl)
    (hdb : (x == ("__debug__" : Str)) = false := by decide) (he : starEach (e :: es) X.env = (false, eval e X.env) :: starEach es X.env := by rfl) (hpl : (backTo pos (starEach es X.env)).any (·.1) = false := by rfl) : PD X (bs X CR E W) (.Call (.Name x p) (e :: es) [] pos) (dMkX Z E t) := by
  obtain ⟨f, fd, d1, mk, F, b0, b1, v1⟩ := T.ex
  refine ⟨fun pins s σ H Q I h => ?_⟩
  refine wpAny_Call_Name_kw (ld_glob I hg hm ?_ hdb)
  refine PySem.W.callWith_K (h₀ := X.base) I.ok.mod.kin mk.kp (thn (ha.run pos pins s σ H (fun vs H1 => ∃ (P : Addr → Prop) (δ : DS0) (ds : List D) (M1 : Mem) (Qd : DK), RepS ⟨X.K, CR, P⟩ H1 M1 δ σ ∧ XL ⟨X.K, CR, P⟩ H1 M1 E W ∧ Good ⟨X.K, CR, P⟩ H1 M1 ∧ Reps ⟨X.K, CR, P⟩ H1 M1 ds vs ∧ MkXD Z ds M1 Qd (fun C ns fs M' => E C ns fs δ M') ∧ ∀ v H', LfV ⟨X.K, CR, P⟩ H1 M1 Qd v H' → Q v H') I ?_) fun us s1 ⟨vs, H1, I1, r, q⟩ => ⟨I1.kIn, ?_⟩) he hpl
  · obtain ⟨P, δ, M, Qd, hS, g, x, w, k⟩ := h
    exact ⟨P, δ, M, _, hS, g, x, w, fun vs H1 ds M1 z1 g1 rs q => ⟨P, δ, ds, M1, Qd, hS.mono z1, x.trans z1, g1, rs, q, fun v H' l => k v H' (l.trans z1)⟩⟩
  · obtain ⟨P, δ, ds, M1, Qd, hS1, x1, g1, rs, q, k⟩ := q
    obtain ⟨a, b, rfl | ⟨rfl, rfl⟩, h0, h1⟩ := q.cases
    · exact run_makeS mk F hr b0 .nil (passAt tk σ) I1 r (make_endX (vs := vs) (dvs := []) g1 (by rw [List.append_nil]; exact rs) h0 h1 k (lfx_w hS1 x1))
    · exact run_makeS mk F hr b1 v1 (passAt tk σ) I1 r (make_endX (vs := vs) (dvs := [V.int 1]) g1 (rs.append (Reps.one (d := .int 1) rfl)) h0 h1 k (lfx_w hS1 x1))
/-! ### a method of a fraction that may raise -/
def dMethX (sp : DSp) (E : DXS) (wo : DE) (t : DA) : DE := fun δ M Q => wo δ M fun o M1 => ∃ q, o = .rat q ∧ t δ M1 fun ds M2 => sp (o :: ds) M2 Q fun C ns fs M' => E C ns fs δ M'
theorem d_methX {name : Str} {ps : List Str} {sp : DSp} {pl : Sem Bool} {k : Nat} {o : Expr} {wo : DE} (O : MethOk X.prog X.w X.K X.mg X.base CR name ps sp) (T : RatT X.prog X.w X.K X.mg X.base CR) (hr : Room k X.A) (tk : Takes X W) (ho : PD X (bs X CR E W) o wo) (ha : PDA X (bs X CR E W) (e :: es) t)
    (hn : ∀ q, (ratF q).lookup name = none := by intro _; rfl) (hk : 38 ≤ k := by decide)
    (hst : starEach (e :: es) X.env = (false, eval e X.env) :: starEach es X.env := by rfl) (hpl : (backTo pos (starEach es X.env)).any (·.1) = false := by rfl)
    (ht : eval (.Call (.Attribute o name apos) (e :: es) [] pos) X.env = (do
      let ov ← eval o X.env
      standAt apos.atName
      let (f, first) ← holding [ov] (getMethod ov name pl)
      callWith pos f first (backTo pos (starEach (e :: es) X.env)) (backToKw pos (keywordEach [] X.env))) := by rfl) : PD X (bs X CR E W) (.Call (.Attribute o name apos) (e :: es) [] pos) (dMethX sp E wo t) := by
  obtain ⟨f, fd, F, hb, hm⟩ := O.ex
  refine ⟨fun pins s σ H Q I h => ?_⟩
  obtain ⟨P, δ, M, Qd, hS, g, x, w, kk⟩ := h
  refine PySem.W.methodCall_KW (pl := pl) (thn (ho.run pins s σ H (fun v H' => LfV ⟨X.K, CR, P⟩ H M _ v H') I ⟨P, δ, M, _, hS, g, x, w, fun _ _ l => l⟩) fun u s1 ⟨y, H1, I1, ry, d, M1, z1, g1, r1, q, ed, q1⟩ => ?_) ht
  subst ed
  have r1' := r1
  obtain ⟨a, dx, rfl, _, ea⟩ := r1
  obtain rfl : u = Value.ref a := ry
  refine getmeth_ok I1 ea T.cls hm (hn q) ?_
  refine PySem.W.callWith_K (first := [.ref a]) (h₀ := X.base) I1.ok.mod.kin hm.kp (thn (ha.run pos pins s1 σ H1 (fun vs H2 => ∃ ds M2, Fz ⟨X.K, CR, P⟩ H1 M1 H2 M2 ∧ Good ⟨X.K, CR, P⟩ H2 M2 ∧ Reps ⟨X.K, CR, P⟩ H2 M2 ds vs ∧ sp (.rat q :: ds) M2 Qd fun C ns fs M' => E C ns fs δ M') I1 ⟨P, δ, M1, _, hS.mono z1, g1, x.trans z1, q1, fun vs H2 ds M2 z2 g2 rs q2 => ⟨ds, M2, z2, g2, rs, q2⟩⟩) fun us s2 ⟨vs, H2, I2, r, ds, M2, z2, g2, rs, q2⟩ => ⟨I2.kIn, ?_⟩) hst hpl
  refine run_fnS (E := fun σ c d H' => W c d σ H') (us := .ref a :: us) (vs := .ref a :: vs) F (hr.mono hk) hb (passAt tk σ) I2 (.cons rfl r) ?_
  exact ⟨P, .rat q :: ds, M2, Qd, _, ⟨_, _, rfl, r1'.mono z2, rs⟩, g2, q2, fun v H' l => kk v H' (l.trans (z1.trans z2)), lfx_w ((hS.mono z1).mono z2) (x.trans (z1.trans z2))⟩
end
def sp_overX (Z : Addr) : DSp := fun ds M Q Ex => ∃ p q, ds = [.rat p, .rat q] ∧ Sm p ∧ Sm q ∧ (q = 0 → Ex Z [] [] M) ∧ (q ≠ 0 → Q (.rat (p / q)) M)
/-- what is known of the fractions' error -/
structure RatX (P : Program) (w : World) (K : PySem.W.Frag) (mg : Str → Option Value) (base : Heap) (CR Z : Addr) : Prop where
  z : ErrC K mg "ZeroDivisor" Z
  ini : MkOkX P w K mg base CR Z
theorem mkOkX_of {P : Program} {w : World} {K : PySem.W.Frag} {mg : Str → Option Value} {base : Heap} {CR Z f : Addr} {fd : FuncData} {x qual : Str} {st : Stmt} (F : FunD K x qual (defArgs st) (defBody st) (defScope st) [V.int 1] [] f fd) (mk : Mk K CR f) (ok : FnOk P w K mg base (L2.CX P w) 36 f fd ["self", "top", "bottom"] (lSp K CR (sp_initX CR Z)))
    (h : ∀ (T : Addr) (kV doc pm : Value) (an : Option Addr) (cdv ct a b c d : Value), (∃ k, bindArgs (PySem.W.fnOf x qual (defArgs st) (defBody st) (defScope st) (.ref T) kV doc pm an cdv ct) ⟨[a, b, c], []⟩ = seqItems? (.ref T) >>= k ∧ k (some #[d]) = pure ((["self", "top", "bottom"] : List Str).zip [a, b, c])) ∧
      ∃ k, bindArgs (PySem.W.fnOf x qual (defArgs st) (defBody st) (defScope st) (.ref T) kV doc pm an cdv ct) ⟨[a, b], []⟩ = seqItems? (.ref T) >>= k ∧ k (some #[d]) = pure ((["self", "top", "bottom"] : List Str).zip [a, b, d])) : MkOkX P w K mg base CR Z := by
  obtain ⟨ds, v0, b0⟩ := F.binds1 (ps := ["self", "top", "bottom"]) 3 1 (by simp) rfl (fun T kV doc pm an cdv ct us its h1 h2 => match us, its, h1, h2 with
    | [a, b, c], [d], _, _ => (h T kV doc pm an cdv ct a b c d).1)
  obtain ⟨es, v1, b1⟩ := F.binds1 (ps := ["self", "top", "bottom"]) 2 0 (by simp) rfl (fun T kV doc pm an cdv ct us its h1 h2 => match us, its, h1, h2 with
    | [a, b], [d], _, _ => (h T kV doc pm an cdv ct a b d d).2)
  cases v0
  match es, v1 with
  | [d1], v1 => exact ⟨f, fd, d1, mk, ok, b0, b1, v1⟩
open PySem PySem.SeqAt
open MeetsSeq MeetsSeq2 MeetsSeq3 SeqRoads2
/-! ### == and != of tuples, whatever the answer -/
section
variable {prog : Program} {w : World} {A : Around} {R : Result → Shared → Prop}
/-- the answer: all pairs equal and as many items -/
def tupAns (c : Nat → Bool) (m n : Nat) : Bool := (List.range (min m n)).all c && m == n
theorem tup_eqB (l b : Addr) (items items2 : Array Value) (n n2 : Nat) (dd dd2 : Option Addr) (sl sl2 : Array (Option Value)) (c : Nat → Bool) (I : Nat → Shared → Prop)
    (turn : ∀ i (h1 : i < items.size) (h2 : i < items2.size) s, I i s → wpAny (model prog w) A.in1 (eqBool items[i] items2[i]) (fun r s' => r = c i ∧ I (i + 1) s') (fun e s' => R (.error e) s') s)
    (fin : ∀ i s, I i s → R (.ok (.ret (.bool (tupAns c items.size items2.size)))) s) {s : Shared} (hl1 : s.heap.get? l = some { cls := .type "tuple", dict := dd, data := .seq items n, slots := sl }) (hb1 : s.heap.get? b = some { cls := .type "tuple", dict := dd2, data := .seq items2 n2, slots := sl2 }) (h : I 0 s) :
    wpAny (model prog w) A.in1 (Builtin.«tuple.__eq__» ⟨[.ref l, .ref b], []⟩) (GQ.FinOf prog w A R) (fun e s' => R (.error e) s') s := by
  have f2 := AutoSeq1.sub_tuple_tuple
  have hZ : (items.toList.zip items2.toList).length = min items.size items2.size := by simp
  have h0 := h
  obtain ⟨hp, g, d, tk, os⟩ := s
  wp_walk using AutoSeq1.wpAny_loadPart' hl1, AutoSeq1.wpAny_loadPart' hb1, wpAny_forIn_list _ (fun rest b s' => ∃ i, I i s' ∧ b.1 = none ∧ rest = (items.toList.zip items2.toList).drop i ∧ i ≤ min items.size items2.size ∧ (List.range i).all c = true) _
  case turn =>
    rintro ⟨y, x⟩ rest b s' ⟨i, hI, hb', hz, hi, hall⟩
    have hlt : i < (items.toList.zip items2.toList).length := by
      rcases Nat.lt_or_ge i (items.toList.zip items2.toList).length with h' | h'
      · exact h'
      · rw [List.drop_of_length_le h'] at hz; cases hz
    have hm : i < min items.size items2.size := hZ ▸ hlt
    have h1 : i < items.size := by omega
    have h2 : i < items2.size := by omega
    rw [List.drop_eq_getElem_cons hlt] at hz
    injection hz with hyx hrest
    obtain rfl : y = items[i] := by have := congrArg Prod.fst hyx; simpa using this
    obtain rfl : x = items2[i] := by have := congrArg Prod.snd hyx; simpa using this
    refine wpAny_bind (wpAny_mono (turn i h1 h2 s' hI) (fun r s2 q => ?_) fun _ _ z => z)
    obtain ⟨hr, hI2⟩ := q
    subst hr
    cases hc : c i with
    | true =>
      have all2 : (List.range (i + 1)).all c = true := by rw [List.range_succ, List.all_append, hall]; simp [hc]
      wp_walk
      exact ⟨i + 1, hI2, rfl, hrest, by omega, all2⟩
    | false =>
      have no : tupAns c items.size items2.size = false := by
        unfold tupAns
        have : (List.range (min items.size items2.size)).all c = false := by
          rw [List.all_eq_false]
          exact ⟨i, List.mem_range.mpr hm, by rw [hc]; exact Bool.false_ne_true⟩
        rw [this]; rfl
      have q := fin (i + 1) s2 hI2
      rw [no] at q
      wp_walk
      exact q
  case fin =>
    rintro ⟨b1, b2⟩ s' ⟨i, hI, hb', hz, hi, hall⟩
    simp only at hb'
    subst hb'
    have hge : min items.size items2.size ≤ i := by
      rcases Nat.lt_or_ge i (items.toList.zip items2.toList).length with h' | h'
      · rw [List.drop_eq_getElem_cons h'] at hz; cases hz
      · exact hZ ▸ h'
    have hi' : i = min items.size items2.size := by omega
    have q := fin i s' hI
    unfold tupAns at q
    rw [← hi', hall] at q
    wp_walk
    simpa [Builtin.Tuple.tupleCompareSizes, bne] using q
  case h =>
    exact ⟨0, h0, rfl, rfl, Nat.zero_le _, rfl⟩
theorem tup_neB (l b : Addr) (items items2 : Array Value) (n n2 : Nat) (dd dd2 : Option Addr) (sl sl2 : Array (Option Value)) (c : Nat → Bool) (I : Nat → Shared → Prop)
    (turn : ∀ i (h1 : i < items.size) (h2 : i < items2.size) s, I i s → wpAny (model prog w) A.in1 (eqBool items[i] items2[i]) (fun r s' => r = c i ∧ I (i + 1) s') (fun e s' => R (.error e) s') s)
    (fin : ∀ i s, I i s → R (.ok (.ret (.bool (!tupAns c items.size items2.size)))) s) {s : Shared} (hl1 : s.heap.get? l = some { cls := .type "tuple", dict := dd, data := .seq items n, slots := sl }) (hb1 : s.heap.get? b = some { cls := .type "tuple", dict := dd2, data := .seq items2 n2, slots := sl2 }) (h : I 0 s) :
    wpAny (model prog w) A.in1 (Builtin.«tuple.__ne__» ⟨[.ref l, .ref b], []⟩) (GQ.FinOf prog w A R) (fun e s' => R (.error e) s') s := by
  have f2 := AutoSeq1.sub_tuple_tuple
  have hZ : (items.toList.zip items2.toList).length = min items.size items2.size := by simp
  have h0 := h
  obtain ⟨hp, g, d, tk, os⟩ := s
  wp_walk using AutoSeq1.wpAny_loadPart' hl1, AutoSeq1.wpAny_loadPart' hb1, wpAny_forIn_list _ (fun rest b s' => ∃ i, I i s' ∧ b.1 = none ∧ rest = (items.toList.zip items2.toList).drop i ∧ i ≤ min items.size items2.size ∧ (List.range i).all c = true) _
  case turn =>
    rintro ⟨y, x⟩ rest b s' ⟨i, hI, hb', hz, hi, hall⟩
    have hlt : i < (items.toList.zip items2.toList).length := by
      rcases Nat.lt_or_ge i (items.toList.zip items2.toList).length with h' | h'
      · exact h'
      · rw [List.drop_of_length_le h'] at hz; cases hz
    have hm : i < min items.size items2.size := hZ ▸ hlt
    have h1 : i < items.size := by omega
    have h2 : i < items2.size := by omega
    rw [List.drop_eq_getElem_cons hlt] at hz
    injection hz with hyx hrest
    obtain rfl : y = items[i] := by have := congrArg Prod.fst hyx; simpa using this
    obtain rfl : x = items2[i] := by have := congrArg Prod.snd hyx; simpa using this
    refine wpAny_bind (wpAny_mono (turn i h1 h2 s' hI) (fun r s2 q => ?_) fun _ _ z => z)
    obtain ⟨hr, hI2⟩ := q
    subst hr
    cases hc : c i with
    | true =>
      have all2 : (List.range (i + 1)).all c = true := by rw [List.range_succ, List.all_append, hall]; simp [hc]
      wp_walk
      exact ⟨i + 1, hI2, rfl, hrest, by omega, all2⟩
    | false =>
      have no : tupAns c items.size items2.size = false := by
        unfold tupAns
        have : (List.range (min items.size items2.size)).all c = false := by
          rw [List.all_eq_false]
          exact ⟨i, List.mem_range.mpr hm, by rw [hc]; exact Bool.false_ne_true⟩
        rw [this]; rfl
      have q := fin (i + 1) s2 hI2
      rw [no] at q
      wp_walk
      exact q
  case fin =>
    rintro ⟨b1, b2⟩ s' ⟨i, hI, hb', hz, hi, hall⟩
    simp only at hb'
    subst hb'
    have hge : min items.size items2.size ≤ i := by
      rcases Nat.lt_or_ge i (items.toList.zip items2.toList).length with h' | h'
      · rw [List.drop_eq_getElem_cons h'] at hz; cases hz
      · exact hZ ▸ h'
    have hi' : i = min items.size items2.size := by omega
    have q := fin i s' hI
    unfold tupAns at q
    rw [← hi', hall] at q
    wp_walk
    simpa [Builtin.Tuple.tupleCompareSizes, bne] using q
  case h =>
    exact ⟨0, h0, rfl, rfl, Nat.zero_le _, rfl⟩
end
section
open PySem.Spec PyProof.Rows L2
/-- answers of == that are known of data -/
abbrev Ans := D → D → Option Bool
def ansR : Ans := fun a b => match a, b with
  | .rat p, .rat q => some (decide (p = q))
  | _, _ => none
/-- item by item -/
def ansTs (f : Ans) : List D → List D → Option (List Bool)
  | x :: xs, y :: ys => (f x y).bind fun r => (ansTs f xs ys).map fun rs => r :: rs
  | _, _ => some []
def ansT (f : Ans) : Ans := fun a b => match a, b with
  | .tup xs, .tup ys => (ansTs f xs ys).map fun rs => rs.all id && xs.length == ys.length
  | _, _ => none
variable {X : Cx} {CR : Addr}
/-- inside a built-in: == of two values that stand for data -/
def EqOk (X : Cx) (CR : Addr) (k : Nat) (f : Ans) : Prop :=
  ∀ (A : Around) (pins : List (Addr × Obj)) (s : Shared) (σ : L2.St) (H : Hp) (P : Addr → Prop) (M : Mem) (a b : D) (x y : V) (u v : Value) (r : Bool), Sub X k A → Inv X pins σ H s → RelV x u → RelV y v → Good ⟨X.K, CR, P⟩ H M → Rep ⟨X.K, CR, P⟩ H M a x → Rep ⟨X.K, CR, P⟩ H M b y → f a b = some r →
    wpAny (model X.prog X.w) A (eqBool u v) (fun r' s' => r' = r ∧ ∃ H', Inv X pins σ H' s' ∧ Fz ⟨X.K, CR, P⟩ H M H' M ∧ Good ⟨X.K, CR, P⟩ H' M) X.xe s
theorem rep_rat_inj {O : Own} {H M} {p q : Rat} {x : V} (h1 : Rep O H M (.rat p) x) (h2 : Rep O H M (.rat q) x) : p = q := by
  obtain ⟨a, dx, rfl, _, e1⟩ := h1
  obtain ⟨b, dy, e, _, e2⟩ := h2
  cases e
  rw [e1] at e2
  injection e2 with e2
  injection e2 with _ _ e3
  unfold ratF at e3
  simp only [List.cons.injEq, Prod.mk.injEq, V.int.injEq, and_true, true_and] at e3
  exact (q_eq p q).mpr e3
theorem eqOk_rat (T : RatT X.prog X.w X.K X.mg X.base CR) : EqOk X CR 38 ansR := by
  intro A pins s σ H P M a b x y u v r sb I ru rv g ra rb h
  obtain ⟨p, q, rfl, rfl, hr⟩ : ∃ p q, a = .rat p ∧ b = .rat q ∧ decide (p = q) = r := by
    unfold ansR at h
    split at h
    · exact ⟨_, _, rfl, rfl, by injection h⟩
    · cases h
  obtain ⟨f, fd, F, hb, hs, hf⟩ := T.eq.ex
  have rs : Reps ⟨X.K, CR, P⟩ H M [.rat p, .rat q] [x, y] := ⟨_, _, rfl, ra, _, _, rfl, rb, rfl⟩
  obtain ⟨tb, lb, nf⟩ := eqB_look (d := .rat q) (p := p) (r := decide (p = q)) T.isf I rv rb rfl
  have ra' := ra
  have rb' := rb
  obtain ⟨a, dx, rfl, _, ha⟩ := ra
  obtain ⟨b, dy, rfl, fb, hb'⟩ := rb
  obtain rfl : u = Value.ref a := ru
  obtain rfl : v = Value.ref b := rv
  obtain ⟨mA, J, _⟩ := ins_get I.hok ha
  obtain ⟨od, J, _⟩ := J.look
  obtain ⟨m, hF⟩ := I.fr
  by_cases hab : a = b
  · subst hab
    have e : p = q := rep_rat_inj ra' rb'
    exact SeqAt.EqAt.same (A := A) (s := s) (.ref a) X.prog X.w X.xe _ ⟨by rw [← hr, decide_eq_true e], H, I, Fz.refl, g⟩
  · refine GQ.eqBool_refG hab ?_
    refine PySem.W.cmp_K (op := .Eq) sb.room.units0 hF I.ok.mod.kin J lb nf hs hf ?_
    have e0 : Env0 X.prog X.w X.K X.mg X.base A X.stack s H := by
      have e := I.env0
      exact ⟨by rw [sb.fr]; exact e.frames, e.mod, e.bs, e.bsz, e.funs, e.frf, e.hok, e.bare⟩
    have hsp : lSp X.K CR sp_eq [.ref a, .ref b] H (fun v H' => v = .bl r ∧ Fz ⟨X.K, CR, P⟩ H M H' M ∧ Good ⟨X.K, CR, P⟩ H' M) E0 := by
      refine lSp_of (Qd := fun d M' => d = .bl r ∧ M' = M) g rs ⟨p, .rat q, r, rfl, by rw [← hr]; rfl, rfl, rfl⟩ fun v H' ⟨d, M', z, g', rr, e, em⟩ => ?_
      subst e; subst em
      exact ⟨rr, z, g'⟩
    refine wpAny_call (codeAny_mono (F.run A X.stack s H ⟨[.ref a, .ref b], []⟩ [.ref a, .ref b] [.ref a, .ref b] _ E0 sb.room e0 (by simpa using hb s [.ref a, .ref b] I.kIn rfl) (.cons rfl (.cons rfl .nil)) hsp) fun r' s' hq => ?_)
    cases r' with
    | error e => exact passL pins σ H s e s' I hq
    | ok fl =>
      cases fl with
      | ret w =>
        obtain ⟨z, H', I', rz, ez, q1, q2⟩ := I.after hq
        subst ez
        obtain rfl : w = Value.bool _ := rz
        exact ⟨r, rfl, rfl, H', I', q1, q2⟩
      | next => exact False.elim hq
      | brk => exact False.elim hq
      | cont => exact False.elim hq
/-- one value that stands for both: the answer is True -/
def AnsRefl (f : Ans) : Prop := ∀ (O : Own) (H : Hp) (M : Mem) (d e : D) (x : V) (r : Bool), Rep O H M d x → Rep O H M e x → f d e = some r → r = true
theorem refl_rat : AnsRefl ansR := fun O H M d e x r h1 h2 h => by
  unfold ansR at h
  split at h
  · have := rep_rat_inj h1 h2
    injection h with h
    rw [← h, decide_eq_true this]
  · cases h
theorem ansTs_get {f : Ans} : ∀ {xs ys : List D} {rs : List Bool}, ansTs f xs ys = some rs → rs.length = min xs.length ys.length ∧ ∀ (i : Nat) (a b : D), xs[i]? = some a → ys[i]? = some b → f a b = some (rs.getD i false)
  | [], ys, rs, h => by
    simp [ansTs] at h; subst h
    exact ⟨by simp, fun i a b e _ => by simp at e⟩
  | x :: xs, [], rs, h => by
    simp [ansTs] at h; subst h
    exact ⟨by simp, fun i a b _ e => by simp at e⟩
  | x :: xs, y :: ys, rs, h => by
    unfold ansTs at h
    obtain ⟨r, e1, h⟩ := Option.bind_eq_some_iff.mp h
    obtain ⟨rs', e2, rfl⟩ := Option.map_eq_some_iff.mp h
    obtain ⟨l, g⟩ := ansTs_get e2
    refine ⟨by simp only [List.length_cons]; omega, fun i a b h1 h2 => ?_⟩
    cases i with
    | zero => simp at h1 h2; subst h1; subst h2; simpa using e1
    | succ i => simpa using g i a b (by simpa using h1) (by simpa using h2)
theorem all_range (rs : List Bool) : (List.range rs.length).all (fun i => rs.getD i false) = rs.all id := by
  rw [Bool.eq_iff_iff, List.all_eq_true, List.all_eq_true]
  constructor
  · intro h x hx
    obtain ⟨i, hi, rfl⟩ := List.getElem_of_mem hx
    have := h i (List.mem_range.mpr hi)
    simpa [List.getD_eq_getElem?_getD, List.getElem?_eq_getElem hi] using this
  · intro h i hi
    have hi' := List.mem_range.mp hi
    have := h rs[i] (List.getElem_mem hi')
    simpa [List.getD_eq_getElem?_getD, List.getElem?_eq_getElem hi'] using this
theorem ansT_cases {f : Ans} {a b : D} {r : Bool} (h : ansT f a b = some r) : ∃ xs ys rs, a = .tup xs ∧ b = .tup ys ∧ ansTs f xs ys = some rs ∧ r = (rs.all id && xs.length == ys.length) := by
  unfold ansT at h
  split at h
  · obtain ⟨rs, e, h⟩ := Option.map_eq_some_iff.mp h
    exact ⟨_, _, rs, rfl, rfl, e, h.symm⟩
  · cases h
theorem refl_tup {f : Ans} (hf : AnsRefl f) : AnsRefl (ansT f) := fun O H M d e x r h1 h2 h => by
  obtain ⟨xs, ys, rs, rfl, rfl, e, rfl⟩ := ansT_cases h
  obtain ⟨a, vs, rfl, f1, r1⟩ := h1
  obtain ⟨b, ws, eb, f2, r2⟩ := h2
  cases eb
  have : vs = ws := by
    obtain ⟨_, o1, _, e1⟩ := f1
    obtain ⟨_, o2, _, e2⟩ := f2
    rw [e2] at e1
    injection e1 with e1; injection e1 with _ e1; injection e1 with e1; exact e1.symm
  subst this
  obtain ⟨l, g⟩ := ansTs_get e
  have hl : xs.length = ys.length := by rw [r1.length, r2.length]
  rw [hl, beq_self_eq_true, Bool.and_true, ← all_range, List.all_eq_true]
  intro i hi
  have hi' := List.mem_range.mp hi
  have hx : i < xs.length := by omega
  have hy : i < ys.length := by omega
  obtain ⟨v, ev, rv⟩ := r1.get (List.getElem?_eq_getElem hx)
  obtain ⟨w, ew, rw'⟩ := r2.get (List.getElem?_eq_getElem hy)
  rw [ev] at ew; cases ew
  exact hf O H M _ _ v _ rv rw' (g i _ _ (List.getElem?_eq_getElem hx) (List.getElem?_eq_getElem hy))
/-- what the loop over the pairs keeps -/
def TupI (X : Cx) (CR : Addr) (P : Addr → Prop) (pins : List (Addr × Obj)) (σ : L2.St) (H : Hp) (M : Mem) (_ : Nat) (s' : Shared) : Prop := ∃ H', Inv X pins σ H' s' ∧ Fz ⟨X.K, CR, P⟩ H M H' M ∧ Good ⟨X.K, CR, P⟩ H' M
theorem tup_turn {k : Nat} {f : Ans} (hf : EqOk X CR k f) {A : Around} {pins : List (Addr × Obj)} {σ : L2.St} {H : Hp} {P : Addr → Prop} {M : Mem} {xs ys : List D} {rs : List Bool} {vs ws : List V} {its its2 : List Value} (sb : Sub X (k + 1) A)
    (e : ansTs f xs ys = some rs) (r1 : Reps ⟨X.K, CR, P⟩ H M xs vs) (r2 : Reps ⟨X.K, CR, P⟩ H M ys ws) (v1 : Vals vs its) (v2 : Vals ws its2) (i : Nat) (h1 : i < its.toArray.size) (h2 : i < its2.toArray.size) (s' : Shared) (l : TupI X CR P pins σ H M i s') :
    wpAny (model X.prog X.w) A.in1 (eqBool its.toArray[i] its2.toArray[i]) (fun r s2 => r = rs.getD i false ∧ TupI X CR P pins σ H M (i + 1) s2) X.xe s' := by
  obtain ⟨H1, I1, z1, g1⟩ := l
  have k1 : i < its.length := by simpa using h1
  have k2 : i < its2.length := by simpa using h2
  have x1 : i < xs.length := by rw [r1.length, v1.length]; exact k1
  have x2 : i < ys.length := by rw [r2.length, v2.length]; exact k2
  obtain ⟨v, ev, rv⟩ := r1.get (List.getElem?_eq_getElem x1)
  obtain ⟨w, ew, rw'⟩ := r2.get (List.getElem?_eq_getElem x2)
  obtain ⟨u, eu, ru⟩ := v1.get ev
  obtain ⟨u2, eu2, ru2⟩ := v2.get ew
  rw [List.getElem?_eq_getElem k1] at eu
  rw [List.getElem?_eq_getElem k2] at eu2
  have a1 : its.toArray[i] = u := by simpa using Option.some.inj eu
  have a2 : its2.toArray[i] = u2 := by simpa using Option.some.inj eu2
  rw [a1, a2]
  refine wpAny_mono (hf A.in1 pins s' σ H1 P M _ _ v w u u2 _ sb.in1 I1 ru ru2 g1 (rv.mono z1) (rw'.mono z1) ((ansTs_get e).2 i _ _ (List.getElem?_eq_getElem x1) (List.getElem?_eq_getElem x2))) (fun r s2 q => ?_) fun _ _ z => z
  obtain ⟨hr, H2, I2, z2, g2⟩ := q
  exact ⟨hr, H2, I2, z1.trans z2, g2⟩
theorem tupAns_eq {f : Ans} {xs ys : List D} {rs : List Bool} {m n : Nat} (e : ansTs f xs ys = some rs) (h1 : m = xs.length) (h2 : n = ys.length) : tupAns (fun i => rs.getD i false) m n = (rs.all id && xs.length == ys.length) := by
  unfold tupAns
  rw [h1, h2, ← (ansTs_get e).1, all_range]
theorem rcT {k : Nat} {f : Ans} (hf : EqOk X CR k f) {A : Around} {pins : List (Addr × Obj)} {s : Shared} {σ : L2.St} {H : Hp} {P : Addr → Prop} {M : Mem} {xs ys : List D} {rs : List Bool} {vs ws : List V} {a b : Addr} (sb : Sub X (k + 1) A) (I : Inv X pins σ H s) (g : Good ⟨X.K, CR, P⟩ H M)
    (fa : FT ⟨X.K, CR, P⟩ H M a vs) (fb : FT ⟨X.K, CR, P⟩ H M b ws) (r1 : Reps ⟨X.K, CR, P⟩ H M xs vs) (r2 : Reps ⟨X.K, CR, P⟩ H M ys ws) (e : ansTs f xs ys = some rs) :
    wpAny (model X.prog X.w) A (richCompare .Eq (.ref a) (.ref b)) (fun v s' => v = .bool (rs.all id && xs.length == ys.length) ∧ TupI X CR P pins σ H M 0 s') X.xe s := by
  obtain ⟨its, v1, e1, _⟩ := I.tuple fa.sq
  obtain ⟨its2, v2, e2, _⟩ := I.tuple fb.sq
  have l1 : its.toArray.size = xs.length := by rw [List.size_toArray, ← v1.length, r1.length]
  have l2 : its2.toArray.size = ys.length := by rw [List.size_toArray, ← v2.length, r2.length]
  obtain ⟨⟨cls, dd, data, sl⟩, ho, hc, n, hd⟩ := id e1
  obtain ⟨⟨cls2, dd2, data2, sl2⟩, ho2, hc2, n2, hd2⟩ := id e2
  simp only at hc hd hc2 hd2
  subst hc hd hc2 hd2
  refine wpAny_richCompare_same_room (op := .Eq) ⟨_, ho, rfl⟩ ⟨_, ho2, rfl⟩ PySem.F.slot_tuple_eq (GQ.call_here PySem.F.slot_tuple_eq ⟨_, ho, rfl⟩ PySem.F.entry_tuple_eq (PySem.F.args_tuple_eq_2 _ _) ?_) sb.room.units0
  refine tup_eqB (R := wants (fun v s' => v ≠ .notImplemented ∧ (v = .bool (rs.all id && xs.length == ys.length) ∧ TupI X CR P pins σ H M 0 s')) X.xe) a b its.toArray its2.toArray n n2 dd dd2 sl sl2 (fun i => rs.getD i false) (TupI X CR P pins σ H M) (fun i h1 h2 s' q => tup_turn hf sb e r1 r2 v1 v2 i h1 h2 s' q) (fun i s' q => ?_) ho ho2 ⟨H, I, Fz.refl, g⟩
  exact ⟨fun x => (nomatch x), by rw [tupAns_eq e l1 l2], q⟩
theorem rcTn {k : Nat} {f : Ans} (hf : EqOk X CR k f) {A : Around} {pins : List (Addr × Obj)} {s : Shared} {σ : L2.St} {H : Hp} {P : Addr → Prop} {M : Mem} {xs ys : List D} {rs : List Bool} {vs ws : List V} {a b : Addr} (sb : Sub X (k + 1) A) (I : Inv X pins σ H s) (g : Good ⟨X.K, CR, P⟩ H M)
    (fa : FT ⟨X.K, CR, P⟩ H M a vs) (fb : FT ⟨X.K, CR, P⟩ H M b ws) (r1 : Reps ⟨X.K, CR, P⟩ H M xs vs) (r2 : Reps ⟨X.K, CR, P⟩ H M ys ws) (e : ansTs f xs ys = some rs) :
    wpAny (model X.prog X.w) A (richCompare .NotEq (.ref a) (.ref b)) (fun v s' => v = .bool (!(rs.all id && xs.length == ys.length)) ∧ TupI X CR P pins σ H M 0 s') X.xe s := by
  obtain ⟨its, v1, e1, _⟩ := I.tuple fa.sq
  obtain ⟨its2, v2, e2, _⟩ := I.tuple fb.sq
  have l1 : its.toArray.size = xs.length := by rw [List.size_toArray, ← v1.length, r1.length]
  have l2 : its2.toArray.size = ys.length := by rw [List.size_toArray, ← v2.length, r2.length]
  obtain ⟨⟨cls, dd, data, sl⟩, ho, hc, n, hd⟩ := id e1
  obtain ⟨⟨cls2, dd2, data2, sl2⟩, ho2, hc2, n2, hd2⟩ := id e2
  simp only at hc hd hc2 hd2
  subst hc hd hc2 hd2
  refine wpAny_richCompare_same_room (op := .NotEq) ⟨_, ho, rfl⟩ ⟨_, ho2, rfl⟩ PySem.F.slot_tuple_ne (GQ.call_here PySem.F.slot_tuple_ne ⟨_, ho, rfl⟩ PySem.F.entry_tuple_ne (PySem.F.args_tuple_ne_2 _ _) ?_) sb.room.units0
  refine tup_neB (R := wants (fun v s' => v ≠ .notImplemented ∧ (v = .bool (!(rs.all id && xs.length == ys.length)) ∧ TupI X CR P pins σ H M 0 s')) X.xe) a b its.toArray its2.toArray n n2 dd dd2 sl sl2 (fun i => rs.getD i false) (TupI X CR P pins σ H M) (fun i h1 h2 s' q => tup_turn hf sb e r1 r2 v1 v2 i h1 h2 s' q) (fun i s' q => ?_) ho ho2 ⟨H, I, Fz.refl, g⟩
  exact ⟨fun x => (nomatch x), by rw [tupAns_eq e l1 l2], q⟩
theorem eqOk_tup {k : Nat} {f : Ans} (hf : EqOk X CR k f) (hr : AnsRefl f) : EqOk X CR (k + 1) (ansT f) := by
  intro A pins s σ H P M a b x y u v r sb I ru rv g ra rb h
  have ra' := ra
  have rb' := rb
  obtain ⟨xs, ys, rs, rfl, rfl, e, er⟩ := ansT_cases h
  obtain ⟨a, vs, rfl, fa, r1⟩ := ra
  obtain ⟨b, ws, rfl, fb, r2⟩ := rb
  obtain rfl : u = Value.ref a := ru
  obtain rfl : v = Value.ref b := rv
  by_cases hab : a = b
  · subst hab
    exact SeqAt.EqAt.same (A := A) (s := s) (.ref a) X.prog X.w X.xe _ ⟨(refl_tup hr _ _ _ _ _ _ _ ra' rb' h).symm, H, I, Fz.refl, g⟩
  · refine GQ.eqBool_refG hab (wpAny_mono (rcT hf sb I g fa fb r1 r2 e) (fun v s' q => ?_) fun _ _ z => z)
    obtain ⟨hv, q⟩ := q
    exact ⟨r, by rw [hv, er], rfl, q⟩
/-- == and != of tuples -/
def rEqT (f : Ans) : D2 := fun a b M Q => ∃ r, ansT f a b = some r ∧ Q (.bl r) M
def rNeT (f : Ans) : D2 := fun a b M Q => ∃ r, ansT f a b = some r ∧ Q (.bl (!r)) M
theorem o_eqT {k : Nat} {f : Ans} (hf : EqOk X CR k f) (hr : Room (k + 1) X.A) : OpR X (compareOp .Eq) (l2 X.K CR (rEqT f)) := by
  intro pins s σ H x y v u Q I rx ry ⟨P, a, b, M, Qd, ra, rb, g, ⟨r, h, q⟩, kk⟩
  obtain ⟨xs, ys, rs, rfl, rfl, e, er⟩ := ansT_cases h
  obtain ⟨a, vs, rfl, fa, r1⟩ := ra
  obtain ⟨b, ws, rfl, fb, r2⟩ := rb
  obtain rfl : v = Value.ref a := rx
  obtain rfl : u = Value.ref b := ry
  show wpAny (model X.prog X.w) X.A (richCompare .Eq (.ref a) (.ref b)) (EP X pins σ Q) X.xe s
  refine wpAny_mono (rcT hf ⟨hr, rfl⟩ I g fa fb r1 r2 e) (fun v s' q2 => ?_) fun _ _ z => z
  obtain ⟨hv, H', I', z, g'⟩ := q2
  exact ⟨.bl r, H', I', by rw [hv, er]; rfl, kk _ _ ⟨.bl r, M, z, g', rfl, q⟩⟩
theorem o_neT {k : Nat} {f : Ans} (hf : EqOk X CR k f) (hr : Room (k + 1) X.A) : OpR X (compareOp .NotEq) (l2 X.K CR (rNeT f)) := by
  intro pins s σ H x y v u Q I rx ry ⟨P, a, b, M, Qd, ra, rb, g, ⟨r, h, q⟩, kk⟩
  obtain ⟨xs, ys, rs, rfl, rfl, e, er⟩ := ansT_cases h
  obtain ⟨a, vs, rfl, fa, r1⟩ := ra
  obtain ⟨b, ws, rfl, fb, r2⟩ := rb
  obtain rfl : v = Value.ref a := rx
  obtain rfl : u = Value.ref b := ry
  show wpAny (model X.prog X.w) X.A (richCompare .NotEq (.ref a) (.ref b)) (EP X pins σ Q) X.xe s
  refine wpAny_mono (rcTn hf ⟨hr, rfl⟩ I g fa fb r1 r2 e) (fun v s' q2 => ?_) fun _ _ z => z
  obtain ⟨hv, H', I', z, g'⟩ := q2
  exact ⟨.bl (!r), H', I', by rw [hv, er]; rfl, kk _ _ ⟨.bl (!r), M, z, g', rfl, q⟩⟩
/-- rows of fractions, matrices of them -/
def ansRow : Ans := ansT ansR
def ansMat : Ans := ansT ansRow
def rEqB : D2 := fun a b M Q => rEqA a b M Q ∨ rEqT ansR a b M Q ∨ rEqT ansRow a b M Q
def rNeB : D2 := fun a b M Q => rNeA a b M Q ∨ rNeT ansR a b M Q ∨ rNeT ansRow a b M Q
theorem _root_.DL.RatT.o_eqB {k : Nat} (T : RatT X.prog X.w X.K X.mg X.base CR) (hr : Room k X.A) (hk : 40 ≤ k := by decide) : OpR X (compareOp .Eq) (l2 X.K CR rEqB) :=
  op2_or (T.o_eq hr (by omega)) (op2_or (r := fun a b M Q => rEqT ansR a b M Q ∨ rEqT ansRow a b M Q) (o_eqT (eqOk_rat T) (hr.mono (by omega))) (o_eqT (eqOk_tup (eqOk_rat T) refl_rat) (hr.mono (by omega))) fun _ _ _ _ h => h) fun _ _ _ _ h => h
theorem _root_.DL.RatT.o_neB {k : Nat} (T : RatT X.prog X.w X.K X.mg X.base CR) (hr : Room k X.A) (hk : 40 ≤ k := by decide) : OpR X (compareOp .NotEq) (l2 X.K CR rNeB) :=
  op2_or (T.o_ne hr (by omega)) (op2_or (r := fun a b M Q => rNeT ansR a b M Q ∨ rNeT ansRow a b M Q) (o_neT (eqOk_rat T) (hr.mono (by omega))) (o_neT (eqOk_tup (eqOk_rat T) refl_rat) (hr.mono (by omega))) fun _ _ _ _ h => h) fun _ _ _ _ h => h
end
section
open PySem.Spec PyProof.Rows L2
variable {X : Cx} {CR : Addr}
/-- is, of two truth values -/
theorem op_isBl : OpR X (compareOp .Is) (fun x y H Q => ∃ a b, x = .bl a ∧ y = .bl b ∧ Q (.bl (a == b)) H) := by
  intro pins s σ H x y v u Q I rx ry ⟨a, b, h1, h2, q⟩
  subst h1; subst h2
  cases rx
  cases ry
  show wpAny _ _ (do return Value.bool (← isSame (.bool a) (.bool b))) _ _ _
  refine wpAny_bind (wpAny_pure ?_)
  exact wpAny_pure ⟨.bl (a == b), H, I, by cases a <;> cases b <;> rfl, q⟩
def rIsB : D2 := fun a b M Q => ∃ x y, a = .bl x ∧ b = .bl y ∧ Q (.bl (x == y)) M
theorem o_isB : OpR X (compareOp .Is) (l2 X.K CR rIsB) := op_isBl.imp fun x y H Q hh => by
  obtain ⟨P, a, b, M, Qd, ra, rb, gd, ⟨p, q, rfl, rfl, r⟩, k⟩ := hh
  exact ⟨p, q, ra, rb, k _ _ (lf_bl gd r)⟩
end
/-! ### steps of the proof's own: what is told of the data may be told otherwise -/
def Cnv (δ : DS0) (M : Mem) (δ' : DS0) (M' : Mem) : Prop := ∀ (O : Own) (H : Hp) (σ : L2.St), RepS O H M δ σ → Good O H M → Fz O H M H M' ∧ Good O H M' ∧ RepS O H M' δ' σ
theorem Cnv.refl {δ M} : Cnv δ M δ M := fun _ _ _ r g => ⟨Fz.refl, g, r⟩
theorem Cnv.trans {δ M δ1 M1 δ2 M2} (a : Cnv δ M δ1 M1) (b : Cnv δ1 M1 δ2 M2) : Cnv δ M δ2 M2 := fun O H σ r g =>
  let ⟨z, g1, r1⟩ := a O H σ r g
  let ⟨z2, g2, r2⟩ := b O H σ r1 g1
  ⟨z.trans z2, g2, r2⟩
def dGo (w : DSt) : DSt := fun D δ M => ∃ δ' M', Cnv δ M δ' M' ∧ w D δ' M'
section
variable {X : Cx} {CR : Addr} {E : DXS} {W : WX}
theorem s_go {l : List Stmt} {w : DSt} (h : PDSs X (bs X CR E W) l w) : PDSs X (bs X CR E W) l (dGo w) := by
  refine h.imp fun Dn σ H hh => ?_
  obtain ⟨P, δ, M, Dd, hS, g, x, ⟨δ', M', cv, w⟩, k⟩ := hh
  obtain ⟨z, g', hS'⟩ := cv _ _ _ hS g
  exact ⟨P, δ', M', Dd, hS', g', x.trans z, w, k.trans z⟩
end
/-- a list is let go -/
theorem cnv_frz {δ : DS0} {M : Mem} {i : Nat} {p : Addr} {xs : List D} (hi : δ[i]? = some (some (.ref p))) (h : M p = some (.lst xs)) : Cnv δ M (δ.set i (some (.lst xs))) (mdel M p) := fun O H σ r g => by
  refine ⟨fz_del, good_del g, ?_⟩
  obtain ⟨v, e, rv⟩ := r.2 i _ hi
  have := (r.mono (fz_del (p := p))).set (i := i) (rep_frz g h)
  rw [show v = .ref p from rv] at e
  have hl : i < σ.length := (List.getElem?_eq_some_iff.mp e).1
  have : σ.set i (some (.ref p)) = σ := by
    refine List.ext_getElem? fun j => ?_
    by_cases n : j = i
    · subst n; rw [List.getElem?_set_self hl, e]
    · rw [List.getElem?_set_ne (Ne.symm n)]
  rw [← this]
  assumption
/-- a list of lists: all of them are let go; ps: their places -/
def delAll (M : Mem) : List Addr → Mem
  | [] => M
  | p :: ps => mdel (delAll M ps) p
theorem delAll_ne {M : Mem} {a : Addr} : ∀ {ps : List Addr}, (∀ p, p ∈ ps → a ≠ p) → delAll M ps a = M a
  | [], _ => rfl
  | p :: ps, h => by
    show mdel (delAll M ps) p a = _
    rw [mdel_ne (h p List.mem_cons_self)]
    exact delAll_ne fun q hq => h q (List.mem_cons_of_mem _ hq)
theorem frz_all {O : Own} {H : Hp} {M : Mem} (g : Good O H M) : ∀ (ps : List Addr), Fz O H M H (delAll M ps) ∧ Good O H (delAll M ps)
  | [] => ⟨Fz.refl, g⟩
  | p :: ps => by
    obtain ⟨z, g1⟩ := frz_all g ps
    exact ⟨z.trans fz_del, good_del g1⟩
/-- what the places hold: lists of data, told by f -/
def Holds (M : Mem) (f : Addr → List D) (ps : List Addr) : Prop := ∀ p, p ∈ ps → M p = some (.lst (f p))
theorem rep_all {O : Own} {H : Hp} {M : Mem} {f : Addr → List D} (g : Good O H M) {p : Addr} {ps : List Addr} (h : M p = some (.lst (f p))) (m : p ∈ ps) : Rep O H (delAll M ps) (.lst (f p)) (.ref p) := by
  obtain ⟨vs, e, r⟩ := g.at_ p _ h
  have hd : delAll M ps p = none := by
    induction ps with
    | nil => exact absurd m (by simp)
    | cons q qs ih =>
      show mdel (delAll M qs) q p = none
      by_cases n : p = q
      · rw [n]; exact mdel_same
      · rw [mdel_ne n]; exact ih (by rcases List.mem_cons.mp m with m | m; exact absurd m n; exact m)
  exact ⟨p, vs, rfl, ⟨⟨hd, g.noP h⟩, e⟩, r.mono (frz_all g ps).1⟩
theorem reps_all {O : Own} {H : Hp} {M : Mem} {f : Addr → List D} (g : Good O H M) {qs : List Addr} : ∀ (ps : List Addr) (vs : List V), Holds M f ps → (∀ p, p ∈ ps → p ∈ qs) → Reps O H M (ps.map D.ref) vs → Reps O H (delAll M qs) (ps.map fun p => .lst (f p)) vs
  | [], vs, _, _, r => r
  | p :: ps, vs, h, m, r => by
    obtain ⟨v, us, rfl, r1, r2⟩ := r
    rw [show v = .ref p from r1]
    exact ⟨_, us, rfl, rep_all g (h p List.mem_cons_self) (m p List.mem_cons_self), reps_all g ps us (fun q hq => h q (List.mem_cons_of_mem _ hq)) (fun q hq => m q (List.mem_cons_of_mem _ hq)) r2⟩
theorem cnv_all {δ : DS0} {M : Mem} {i : Nat} {ps : List Addr} {f : Addr → List D} (hi : δ[i]? = some (some (.lst (ps.map D.ref)))) (h : Holds M f ps) : Cnv δ M (δ.set i (some (.lst (ps.map fun p => .lst (f p))))) (delAll M ps) := fun O H σ r g => by
  obtain ⟨z, g1⟩ := frz_all g ps
  refine ⟨z, g1, ?_⟩
  obtain ⟨v, e, rv⟩ := r.2 i _ hi
  obtain ⟨a, vs, rfl, fl, rs⟩ := rv
  have hl : i < σ.length := (List.getElem?_eq_some_iff.mp e).1
  have es : σ.set i (some (.ref a)) = σ := by
    refine List.ext_getElem? fun j => ?_
    by_cases n : j = i
    · subst n; rw [List.getElem?_set_self hl, e]
    · rw [List.getElem?_set_ne (Ne.symm n)]
  have := (r.mono z).set (i := i) (d := .lst (ps.map fun p => .lst (f p))) (v := .ref a) ⟨a, vs, rfl, fl.mono z, reps_all g ps vs h (fun p hp => hp) rs⟩
  rw [es] at this
  exact this
/-- a name is told no more -/
theorem cnv_drop {δ : DS0} {M : Mem} {i : Nat} : Cnv δ M (δ.set i none) M := fun O H σ r g => by
  refine ⟨Fz.refl, g, ?_⟩
  refine ⟨by simp [r.1], fun j e h => ?_⟩
  by_cases n : j = i
  · subst n
    have hj : j < δ.length := by
      have := (List.getElem?_eq_some_iff.mp h).1
      simpa using this
    rw [List.getElem?_set_self hj] at h
    cases h
  · rw [List.getElem?_set_ne (Ne.symm n)] at h
    exact r.2 j e h
/-! ### slices -/
abbrev DO := DS0 → Mem → (Option Int → Mem → Prop) → Prop
def dNoPart : DO := fun _ M Q => Q none M
def dPart (w : DE) : DO := fun δ M Q => w δ M fun d M1 => ∃ i : Int, d = .int i ∧ Q (some i) M1
def lO (B : Bs) (w : DO) : TO := fun σ H Q => ∃ P δ M Qd, RepS ⟨B.K, B.CR, P⟩ H M δ σ ∧ Good ⟨B.K, B.CR, P⟩ H M ∧ XL ⟨B.K, B.CR, P⟩ H M B.E B.W ∧ w δ M Qd ∧ ∀ o H' M', Fz ⟨B.K, B.CR, P⟩ H M H' M' → Good ⟨B.K, B.CR, P⟩ H' M' → Qd o M' → Q o H'
abbrev PDO (X : Cx) (B : Bs) (e : Option Expr) (w : DO) : Prop := PO X e (lO B w)
theorem _root_.L2.PO.imp {X : Cx} {e : Option Expr} {t t' : TO} (h : PO X e t) (i : ∀ σ H Q, t' σ H Q → t σ H Q) : PO X e t' := ⟨fun p s σ H Q I q => h.run p s σ H Q I (i σ H Q q)⟩
def cutD (xs : List D) (lo hi : Option Int) : List D := (xs.drop (HT.sIx xs.length 0 lo)).take (HT.sIx xs.length xs.length hi - HT.sIx xs.length 0 lo)
def rSlD : D → Option Int → Option Int → Mem → DK → Prop := fun d lo hi M Q => (∃ xs, d = .lst xs ∧ Q (.lst (cutD xs lo hi)) M) ∨ (∃ p xs, d = .ref p ∧ M p = some (.lst xs) ∧ Q (.lst (cutD xs lo hi)) M) ∨ ∃ xs, d = .tup xs ∧ Q (.tup (cutD xs lo hi)) M
def dSl (w : DE) (l u : DO) : DE := fun δ M Q => w δ M fun d M1 => l δ M1 fun lo M2 => u δ M2 fun hi M3 => rSlD d lo hi M3 Q
theorem Reps.cut {O H M} {ds : List D} {vs : List V} (h : Reps O H M ds vs) (lo hi : Option Int) : Reps O H M (cutD ds lo hi) (cutV vs lo hi) := by
  unfold cutD cutV
  rw [h.length]
  exact (h.drop _).take _
theorem take_all {α : Type} {xs : List α} {n : Nat} (h : xs.length ≤ n) : xs.take n = xs := List.take_of_length_le h
section
variable {X : Cx} {CR : Addr} {E : DXS} {W : WX} {e : Expr} {w : DE} {lo hi : Option Expr} {l u : DO} {pos p2 : Pos}
theorem po_noneD : PDO X (bs X CR E W) none dNoPart := PO.imp po_none fun σ H Q ⟨P, δ, M, Qd, hS, g, x, w, k⟩ => k none H M Fz.refl g w
theorem po_someD (h : PD X (bs X CR E W) e w) : PDO X (bs X CR E W) (some e) (dPart w) := by
  refine PO.imp (po_some h) fun σ H Q hh => ?_
  obtain ⟨P, δ, M, Qd, hS, g, x, w, k⟩ := hh
  refine ⟨P, δ, M, _, hS, g, x, w, fun v H1 ⟨d, M1, z1, g1, r1, i, e, q⟩ => ?_⟩
  subst e
  exact ⟨i, r1, k (some i) H1 M1 z1 g1 q⟩
/-- t[lo:hi] of a tuple: the whole of it is t itself; otherwise a new one, known to the last -/
def rSlZ (K : PySem.W.Frag) : V → Option Int → Option Int → Hp → VK → Prop := fun x lo hi H Q => ∃ a xs, x = .ref a ∧ SqT K H a xs ∧
  (HT.sIx xs.length 0 lo = 0 ∧ HT.sIx xs.length xs.length hi = xs.length → Q (.ref a) H) ∧ (¬ (HT.sIx xs.length 0 lo = 0 ∧ HT.sIx xs.length xs.length hi = xs.length) → ∀ p o, H p = none → TupO o → Q (.ref p) (upd H p (.frz o (.tup (cutV xs lo hi)))))
theorem sl_tupZ : SlR X (rSlZ X.K) := by
  intro pins s σ H x v vl vu lo hi sl Q I rx hs pl pu h
  obtain ⟨a, xs, rfl, hx, q1, q2⟩ := h
  cases rx
  obtain ⟨its, r, ht, hz⟩ := I.tuple hx
  have hlen : its.toArray.size = xs.length := by rw [List.size_toArray]; exact r.length.symm
  refine ⟨"tuple", _, PyProof.Rows.slot_tuple_getitem.lookup, ht.typeIs, ?_⟩
  by_cases hw : HT.sIx xs.length 0 lo = 0 ∧ HT.sIx xs.length xs.length hi = xs.length
  · exact getItem_tuple_whole ht hs pl pu (by rw [hlen]; exact hw) ⟨.ref a, H, I, rfl, q1 hw⟩
  · refine HT.getItem_tuple_cut ht hs pl pu (by rw [hlen]; exact hw) ?_ (by rw [hlen]; exact hz)
    rw [hlen]
    refine ⟨.ref s.heap.objs.size, _, I.laid (t' := s.toks) (o := .frz { cls := .type "tuple", data := .seq (List.take (HT.sIx xs.length xs.length hi - HT.sIx xs.length 0 lo) (List.drop (HT.sIx xs.length 0 lo) its.toArray.toList)).toArray } (.tup (cutV xs lo hi))) (fun b ob q => Heap.get?_push_of_some _ q) (Nat.le_refl _) ?_, rfl, q2 hw _ _ (I.hok.fresh (Nat.le_refl _)) rfl⟩
    exact ⟨Heap.get?_push_size _ rfl, Nat.le_trans (cutV_length xs lo hi) hz, _, (r.drop (HT.sIx xs.length 0 lo)).take (HT.sIx xs.length xs.length hi - HT.sIx xs.length 0 lo), IsTup.new _ _⟩
theorem d_sl (he : PD X (bs X CR E W) e w) (hl : PDO X (bs X CR E W) lo l) (hu : PDO X (bs X CR E W) hi u) : PD X (bs X CR E W) (.Subscript e (.Slice lo hi none p2) pos) (dSl w l u) := by
  refine (pe_slice (SlR.or sl_list sl_tupZ) he hl hu).imp fun σ H Q h => ?_
  obtain ⟨P, δ, M, Qd, hS, g, x, w, k⟩ := h
  refine ⟨P, δ, M, _, hS, g, x, w, fun v H1 ⟨d, M1, z1, g1, r1, q1⟩ => ?_⟩
  refine ⟨P, δ, M1, _, hS.mono z1, g1, x.trans z1, q1, fun o H2 M2 z2 g2 q2 => ?_⟩
  refine ⟨P, δ, M2, _, (hS.mono z1).mono z2, g2, (x.trans z1).trans z2, q2, fun o2 H3 M3 z3 g3 q3 => ?_⟩
  have r3 := (r1.mono z2).mono z3
  have zz := (z1.trans z2).trans z3
  rcases q3 with ⟨xs, rfl, q⟩ | ⟨p, xs, rfl, em, q⟩ | ⟨xs, rfl, q⟩
  · obtain ⟨a, vs, rfl, f, rs⟩ := r3
    exact .inl ⟨a, vs, rfl, f.sq, fun p hp => k _ _ ((newL g3 hp (rs.cut o o2) q).trans zz)⟩
  · rw [show v = .ref p from r3]
    obtain ⟨vs, e1, rs⟩ := g3.at_ p _ em
    exact .inl ⟨p, vs, rfl, .of e1, fun p hp => k _ _ ((newL g3 hp (rs.cut o o2) q).trans zz)⟩
  · obtain ⟨a, vs, rfl, f, rs⟩ := r3
    refine .inr ⟨a, vs, rfl, f.sq, fun ⟨h1, h2⟩ => ?_, fun _ p ob hp t => k _ _ ((newT g3 hp t (rs.cut o o2) q).trans zz)⟩
    have e1 : cutD xs o o2 = xs := by
      unfold cutD
      rw [rs.length, h1, h2, List.drop_zero]
      exact take_all (by rw [rs.length]; omega)
    rw [e1] at q
    exact k _ _ ((LfV.here g3 (show Rep _ _ _ (.tup xs) (.ref a) from ⟨a, vs, rfl, f, rs⟩) q).trans zz)
end
/-! ### is not, of truth values -/
section
variable {X : Cx} {CR : Addr}
theorem op_notBl : OpR X (compareOp .IsNot) (fun x y H Q => ∃ a b, x = .bl a ∧ y = .bl b ∧ Q (.bl (a != b)) H) := by
  intro pins s σ H x y v u Q I rx ry ⟨a, b, h1, h2, q⟩
  subst h1; subst h2
  cases rx
  cases ry
  show wpAny _ _ (do return Value.bool (!(← isSame (.bool a) (.bool b)))) _ _ _
  refine wpAny_bind (wpAny_pure ?_)
  exact wpAny_pure ⟨.bl (a != b), H, I, by cases a <;> cases b <;> rfl, q⟩
def rNotB : D2 := fun a b M Q => ∃ x y, a = .bl x ∧ b = .bl y ∧ Q (.bl (x != y)) M
theorem o_notB : OpR X (compareOp .IsNot) (l2 X.K CR rNotB) := op_notBl.imp fun x y H Q hh => by
  obtain ⟨P, a, b, M, Qd, ra, rb, gd, ⟨p, q, rfl, rfl, r⟩, k⟩ := hh
  exact ⟨p, q, ra, rb, k _ _ (lf_bl gd r)⟩
end
/-! ### enumerate of a list -/
def enumD : Nat → List D → List D
  | _, [] => []
  | n, x :: xs => .prs [.int (n : Int), x] :: enumD (n + 1) xs
theorem enumD_length : ∀ (n : Nat) (xs : List D), (enumD n xs).length = xs.length
  | _, [] => rfl
  | n, x :: xs => by simp [enumD, enumD_length (n + 1) xs]
theorem enumD_get : ∀ {n : Nat} {xs : List D} {i : Nat} {d : D}, (enumD n xs)[i]? = some d → ∃ x, xs[i]? = some x ∧ d = .prs [.int ((n + i : Nat) : Int), x]
  | n, [], i, d, h => by simp [enumD] at h
  | n, x :: xs, 0, d, h => by simp [enumD] at h; exact ⟨x, rfl, h.symm⟩
  | n, x :: xs, i + 1, d, h => by
    simp [enumD] at h
    obtain ⟨y, e, r⟩ := enumD_get h
    exact ⟨y, by simpa using e, by rw [r, show n + 1 + i = n + (i + 1) by omega]⟩
def dEnum (t : DA) : DI := fun δ M R => t δ M fun ds M1 => (∃ xs, ds = [.lst xs] ∧ R (enumD 0 xs) always M1) ∨ ∃ p xs, ds = [.ref p] ∧ M1 p = some (.lst xs) ∧ R (enumD 0 xs) (fun M' => M' p = some (.lst xs)) M1
theorem walkD_enum {O : Own} {H0 M0} {a : Addr} {xs : List D} {chk : Mem → Prop} (fa : ∀ O' H M, Cv O H0 M0 O' H M → Good O' H M → chk M → ∃ vs, SqL O.K H a vs ∧ Reps O' H M xs vs) : WalkD O (Ite O.K a) H0 M0 (enumD 0 xs) chk where
  goes := fun i O' H M hi z g c => by
    rw [enumD_length] at hi
    obtain ⟨vs, h1, h2⟩ := fa O' H M z g c
    have l1 : i < vs.length := by rw [← h2.length]; exact hi
    exact ⟨vs, vs[i], h1, List.getElem?_eq_getElem l1⟩
  stops := fun O' H M z g c => by
    obtain ⟨vs, h1, h2⟩ := fa O' H M z g c
    exact ⟨vs, h1, by rw [enumD_length, h2.length]; exact Nat.le_refl _⟩
  yields := fun i O' H M d v H' hd z g c y => by
    obtain ⟨T, u, rfl, hT, rfl, f1⟩ := y
    obtain ⟨x, hx, rfl⟩ := enumD_get hd
    obtain ⟨vs, h1, h2⟩ := fa O' H M z g c
    obtain ⟨d1, e1, r1⟩ := h2.getV (f1 vs h1)
    rw [hx] at e1; cases e1
    rw [Nat.zero_add]
    exact pair_new g hT (x := .int ((i : Nat) : Int)) (u := .int ((i : Nat) : Int)) rfl r1
section
variable {X : Cx} {CR : Addr} {E : DXS} {W : WX} {pos : Pos}
theorem i_enum {e : Expr} {ta : DA} {p tpos : Pos} {elts : List Expr} {kk : Nat} (hm : X.mg "enumerate" = none) (ha : PDA X (bs X CR E W) [e] ta) (hg : Gl X "enumerate" := by rfl)
    (hs : starEach [e] X.env = [(false, eval e X.env)] := by rfl) :
    PDI X (bs X CR E W) (.Tuple elts kk tpos) (.Call (.Name "enumerate" p) [e] [] pos) (dEnum ta) := by
  refine (pi_enum hg hm ha hs).imp fun σ H R h => ?_
  obtain ⟨P, δ, M, Rd, hS, g, x, w, k⟩ := h
  refine ⟨P, δ, M, _, hS, g, x, w, fun vs H1 ds M1 z1 g1 rs q => ?_⟩
  rcases q with ⟨xs, rfl, q⟩ | ⟨p, xs, rfl, em, q⟩
  · obtain ⟨v, r, rfl, ⟨a, va, rfl, f1, r1⟩, e3⟩ := rs
    rw [show r = [] from e3]
    exact ⟨a, va, rfl, f1.sq, k _ H1 _ _ M1 z1 g1 (walkD_enum (chk := always) fun O' H M z g _ => ⟨va, z.k ▸ (f1.cv z).sq, r1.cv z⟩) q⟩
  · obtain ⟨v, r, rfl, rv, e3⟩ := rs
    rw [show r = [] from e3, show v = .ref p from rv]
    obtain ⟨va, e1, r1⟩ := g1.at_ p _ em
    exact ⟨p, va, rfl, .of e1, k _ H1 _ _ M1 z1 g1 (walkD_enum (chk := fun M' => M' p = some (.lst xs)) fun O' H M z g c => by
      obtain ⟨va, e1, r1⟩ := g.at_ p _ c
      exact ⟨va, .of e1, r1⟩) q⟩
/-! ### + of tuples, one of them empty at times -/
def rCatT : D2 := fun a b M Q => ∃ xs ys, a = .tup xs ∧ b = .tup ys ∧ xs.length + ys.length ≤ sizeLine ∧ Q (.tup (xs ++ ys)) M
def rCatAZ (K : PySem.W.Frag) : R2 := fun x y H Q => ∃ a b xs ys, x = .ref a ∧ y = .ref b ∧ SqT K H a xs ∧ SqT K H b ys ∧ xs.length + ys.length ≤ sizeLine ∧ (xs = [] → Q (.ref b) H) ∧ (xs ≠ [] → ys = [] → Q (.ref a) H) ∧ (xs ≠ [] → ys ≠ [] → ∀ p o, H p = none → TupO o → Q (.ref p) (upd H p (.frz o (.tup (xs ++ ys)))))
theorem op_catAZ : OpR X (binaryOp .Add) (rCatAZ X.K) := by
  intro pins s σ H x y v u Q I rx ry h
  obtain ⟨a, b, xs, ys, rfl, rfl, ha, hb, hz, q0, q1, q2⟩ := h
  by_cases hx : xs = []
  · subst hx
    cases rx
    cases ry
    obtain ⟨its, r1, p1, _⟩ := I.tuple ha
    obtain ⟨its2, r2, p2, _⟩ := I.tuple hb
    cases r1
    exact cat_tup0 p1 p2 ⟨.ref b, H, I, rfl, q0 rfl⟩
  · exact op_catZ pins s σ H _ _ v u Q I rx ry ⟨a, b, xs, ys, rfl, rfl, ha, hb, hx, hz, q1 hx, q2 hx⟩
theorem o_catT : OpR X (binaryOp .Add) (l2 X.K CR rCatT) := op_catAZ.imp fun x y H Q hh => by
  obtain ⟨P, a, b, M, Qd, ra, rb, gd, ⟨xs, ys, rfl, rfl, h2, h3⟩, k⟩ := hh
  have ra' := ra
  have rb' := rb
  obtain ⟨p, vs, rfl, f, rs⟩ := ra
  obtain ⟨q, ws, rfl, f2, rs2⟩ := rb
  refine ⟨p, q, vs, ws, rfl, rfl, f.sq, f2.sq, by rw [← rs.length, ← rs2.length]; exact h2, fun e => ?_, fun _ e => ?_, fun _ _ u o hu t => k _ _ (newT gd hu t (rs.append rs2) h3)⟩
  · have e2 := (reps_nil_iff rs).mp e
    subst e2
    exact k _ _ (LfV.here (d := .tup ys) gd rb' h3)
  · have e2 := (reps_nil_iff rs2).mp e
    subst e2
    rw [List.append_nil] at h3
    exact k _ _ (LfV.here (d := .tup xs) gd ra' h3)
end
/-! DLF: enumerate of a tuple; in, not in. -/
open PySem
open PySem.Sem (wp)
theorem enT_meets_newT (l : Addr) (items : Array Value) (n : Nat) (dct : Option Addr) (sl : Array (Option Value)) :
    Meets (Builtin.«enumerate.__new__» ⟨[.type "enumerate", .ref l], []⟩) (fun _ R s => s.heap.get? l = some { cls := .type "tuple", dict := dct, data := .seq items n, slots := sl } ∧
      R (.ok (.ret (.ref (s.heap.push { cls := .type "tuple_iterator", data := .fields #[.ref l, .int 0 0] }).objs.size)))
        { s with heap := (s.heap.push { cls := .type "tuple_iterator", data := .fields #[.ref l, .int 0 0] }).push { cls := .type "enumerate", data := .fields #[.none, .bool false, .ref s.heap.objs.size, rawInt 0, .none, .none] } }) :=
  .of_wp fun prog w A R s h => by
    obtain ⟨hp, g, d, tk, os⟩ := s; obtain ⟨hl, h⟩ := h
    have hsub := sub_enumerate
    have hL : Heap.IsTuple (Shared.heap ⟨hp, g, d, tk, os⟩) l items := ⟨_, hl, rfl, n, rfl⟩
    wp_walk using AutoSeq1.wpAny_loadPart' hl
    refine wpAny_stack_any fun st => wpAny_pure ?_
    split
    · rename_i c _ _ _ _ _
      cases (c == Value.type "enumerate")
      · wp_walk using AutoSeq1.wpAny_loadPart' hl, wpAny_pyIter_tuple hL
        exact ⟨_, rfl, h⟩
      · wp_walk using AutoSeq1.wpAny_loadPart' hl, wpAny_pyIter_tuple hL
        exact ⟨_, rfl, h⟩
    · wp_walk using AutoSeq1.wpAny_loadPart' hl, wpAny_pyIter_tuple hL
      exact ⟨_, rfl, h⟩
section
variable {prog : Program} {w : World} {A : Around} {E : Value → Shared → Prop} {s : Shared}
theorem enT_call_enumT {l : Addr} {items : Array Value} {Q : Value → Shared → Prop} (hL : s.heap.IsTuple l items)
    (h : ∀ h', IsEnum h' (s.heap.objs.size + 1) s.heap.objs.size 0 .none → h'.IsTupleIter s.heap.objs.size l 0 → h'.objs.size = s.heap.objs.size + 2 →
      (∀ b o, s.heap.get? b = some o → h'.get? b = some o) → Q (.ref (s.heap.objs.size + 1)) { s with heap := h' }) :
    wpAny (model prog w) A (call (.type "enumerate") [.ref l]) Q E s := by
  obtain ⟨⟨c, dct, dt, sl⟩, hl, hc, n, hd⟩ := hL
  replace hc : c = .type "tuple" := hc
  replace hd : dt = .seq items n := hd
  subst hc hd
  refine callType_new F.called_enumerate (by decide) (F.typeCall_enumerate_1 _) (F.newCall_enumerate_1 _) (fun obj => F.args_object_init_2 obj _) F.entry_enumerate_new
    (enT_meets_newT l items n dct sl) ⟨hl, ?_⟩
  have hz : (s.heap.push { cls := .type "tuple_iterator", data := .fields #[.ref l, .int 0 0] }).objs.size = s.heap.objs.size + 1 := Heap.size_push ..
  show _ ∧ _
  rw [hz]
  have he : IsEnum ((s.heap.push { cls := .type "tuple_iterator", data := .fields #[.ref l, .int 0 0] }).push
      { cls := .type "enumerate", data := .fields #[.none, .bool false, .ref s.heap.objs.size, rawInt 0, .none, .none] }) (s.heap.objs.size + 1) s.heap.objs.size 0 .none := by
    have := Heap.get?_push_size (s.heap.push { cls := .type "tuple_iterator", data := .fields #[.ref l, .int 0 0] })
      (o := { cls := .type "enumerate", data := .fields #[.none, .bool false, .ref s.heap.objs.size, rawInt 0, .none, .none] }) rfl
    rw [hz] at this; exact this
  refine ⟨⟨_, he, rfl⟩, h _ he ⟨_, Heap.get?_push_of_some _ (Heap.get?_push_size _ rfl), rfl, rfl⟩ (by rw [Heap.size_push, hz]) fun b o x => Heap.get?_push_of_some _ (Heap.get?_push_of_some _ x)⟩
theorem enT_drawsT {it l : Addr} {items : Array Value} (hh : A.handled = none) (hne : l ≠ it) : Draws prog w A it [it, l] items.size (fun i x => items[i]? = some x) (fun i h => h.IsTupleIter it l i ∧ h.IsTuple l items) where
  live := fun i h st => let ⟨o, ho, _⟩ := st.1; ⟨o, ho⟩
  frame := fun i h h' st k => ⟨st.1.at fun o q => k it (by simp) o q, let ⟨o, ho, r⟩ := st.2; ⟨o, k l (by simp) o ho, r⟩⟩
  item := fun i s Q E hi st hQ => by
    refine RZ.nextOf_tuple_item st.1 st.2 (x := items[i]) (Array.getElem?_eq_getElem hi) fun h' hit' sb => ?_
    have := hQ items[i] h' s.toks (Array.getElem?_eq_getElem hi) ⟨hit', let ⟨o, ho, r⟩ := st.2; ⟨o, (sb.2 l hne).trans ho, r⟩⟩ sb
    exact this
  done := fun s Q E st hE => RZ.nextOf_tuple_end hh st.1 st.2 (by simp) fun h' e eb ho => hE h' e eb ho
theorem enT_drawsE {it l : Addr} {items : Array Value} {n : Nat} (hn : items.size ≤ n) (hh : A.handled = none) : Draws prog w A it [it, l] n (fun _ _ => True) (fun i h => h.IsTupleIter it l i ∧ h.IsTuple l items ∧ i = n) where
  live := fun i h st => let ⟨o, ho, _⟩ := st.1; ⟨o, ho⟩
  frame := fun i h h' st k => ⟨st.1.at fun o q => k it (by simp) o q, let ⟨o, ho, r⟩ := st.2.1; ⟨o, k l (by simp) o ho, r⟩, st.2.2⟩
  item := fun i s Q E hi st hQ => absurd st.2.2 (Nat.ne_of_lt hi)
  done := fun s Q E st hE => RZ.nextOf_tuple_end hh st.1 st.2.1 (Array.getElem?_eq_none hn) fun h' e eb ho => hE h' e eb ho
end
/-- the tuple at a, each item in a new pair -/
def IteT (K : PySem.W.Frag) (a : Addr) : It :=
  ⟨fun i H => ∃ (xs : List V) (x : V), SqT K H a xs ∧ xs[i]? = some x, fun i H v H' => ∃ T x, v = .ref T ∧ H T = none ∧ H' = upd H T (.tup [.int (i : Nat), x]) ∧ ∀ xs, SqT K H a xs → xs[i]? = some x, fun i H => ∃ xs : List V, SqT K H a xs ∧ xs.length ≤ i⟩
theorem turn_enumT {P : Program} {w : World} {K : PySem.W.Frag} {elts : List Expr} {kk : Nat} {tpos : Pos} (a e it : Addr) :
    Turn P w K (.Tuple elts kk tpos) (IteT K a) [e, it] e (fun i h => (∃ old, IsEnum h e it ((i : Nat) : Int) old) ∧ h.IsTupleIter it a i ∧ e ≠ it) where
  mem := by simp
  obj := fun i h st b hb => by
    obtain ⟨⟨old, he⟩, ⟨o, ho, hc, hd⟩, _⟩ := st
    have e' : b = e ∨ b = it := by simpa using hb
    rcases e' with z | z
    · rw [z]; exact ⟨_, he, fun v q => nomatch q⟩
    · rw [z]; exact ⟨o, ho, fun v q => by rw [hd] at q; cases q⟩
  keep := fun i h h' st k => let ⟨⟨old, he⟩, hi, hne⟩ := st; ⟨⟨old, k e (by simp) _ he⟩, hi.at fun o q => k it (by simp) o q, hne⟩
  item := by
    intro X hP hw hK hc i pins s σ H E I hf st hg
    subst hP hw hK
    obtain ⟨⟨old, he⟩, hit, hne⟩ := st
    obtain ⟨xs, x, hq, hx⟩ := hg
    obtain ⟨its, rv, p, hz⟩ := I.tuple hq
    obtain ⟨u, hu, ru⟩ := rv.get hx
    have hel : e < s.heap.objs.size := Heap.lt_size he
    have hil : it < s.heap.objs.size := by obtain ⟨_, q, _⟩ := hit; exact Heap.lt_size q
    have hai : a ≠ it := fun z => by
      obtain ⟨o1, q1, c1, _⟩ := show s.heap.IsTuple a its.toArray from p
      obtain ⟨o2, q2, c2, _⟩ := hit
      rw [z, q2] at q1; cases q1
      rw [c1] at c2
      injection c2 with c2
      exact absurd c2 (by decide)
    have hea : e ∉ [it, a] := fun m => by
      have m' : e = it ∨ e = a := by simpa using m
      rcases m' with m | m
      · exact hne m
      · obtain ⟨o1, q1, c1, _⟩ := show s.heap.IsTuple a its.toArray from p
        have he' : s.heap.get? e = _ := he
        rw [m, q1] at he'; cases he'
        injection c1 with c1
        exact absurd c1 (by decide)
    have hlt : i < its.toArray.size := by
      have := (List.getElem?_eq_some_iff.mp hu).1
      simpa using this
    refine wpAny_pyNext_enum_itemD (P := fun i x => its.toArray[i]? = some x) (enT_drawsT (A := X.A.in1) (I.ok.hd hc) hai) he ⟨hit, p⟩ hlt hne hea fun x0 h' tk hP ho hst hT hsz hk => ?_
    have hx0 : x0 = u := by
      have e1 : its[i]? = some x0 := by simpa using hP
      rw [hu] at e1; cases e1; rfl
    subst hx0
    refine ⟨_, rfl, wpAny_letOwnedTupleGo_enum (s := { s with heap := h', toks := tk + 1 }) ho fun h'' he' sb => ?_⟩
    have hT2 : h''.get? s.heap.objs.size = some { cls := .type "tuple", data := .seq #[.int i tk, x0] } := (sb.2 _ (Nat.ne_of_gt hel)).trans hT
    have new : ObjOk X.prog X.w (upd H s.heap.objs.size (.tup [.int (i : Nat), x])) h'' s.heap.objs.size (.tup [.int (i : Nat), x]) :=
      ⟨by show 2 ≤ sizeLine; decide, [.int i tk, x0], .cons ⟨_, rfl⟩ (.cons ru .nil), ⟨_, hT2, rfl, _, rfl⟩⟩
    have I1 : Inv X pins σ (upd H s.heap.objs.size (.tup [.int (i : Nat), x])) { s with heap := h'', toks := tk + 1 } :=
      I.turnedNew (ch := [e, it]) (fun b ob hb q => (sb.2 b (fun z => hb (by simp [z]))).trans (hk b ob (fun z => hb (by simp [z])) (fun z => hb (by simp [z])) q)) hf (Nat.le_refl _) new
    refine ⟨.ref s.heap.objs.size, _, I1, rfl, ⟨_, x, rfl, I.hok.fresh (Nat.le_refl _), rfl, fun ys hy => by rw [I.tuple_inj hy hq]; exact hx⟩, ⟨⟨x0, ?_⟩, hst.1.at fun o q => (sb.2 it (Ne.symm hne)).trans q, hne⟩, fun b hb => ?_⟩
    · have e1 : ((i + 1 : Nat) : Int) = (i : Int) + 1 := by omega
      rw [e1]; exact he'
    · have hb' : b < s.heap.objs.size := by
        have e' : b = e ∨ b = it := by simpa using hb
        rcases e' with z | z
        · rw [z]; exact hel
        · rw [z]; exact hil
      rw [upd_ne (Nat.ne_of_lt hb')]
      exact (hf b hb).1
  done := by
    intro X hP hw hK hc i pins s σ H E I hf st hg
    subst hP hw hK
    obtain ⟨⟨old, he⟩, hit, hne⟩ := st
    obtain ⟨xs, hq, hx⟩ := hg
    obtain ⟨its, rv, p, hz⟩ := I.tuple hq
    obtain ⟨f0, f1, f2, f3, f4, f5⟩ := hf it (by simp)
    have hl := rv.length
    exact wpAny_pyNext_enum_endD (enT_drawsE (A := X.A.in1) (n := i) (items := its.toArray) (by simp; omega) (I.ok.hd hc)) he ⟨hit, p, rfl⟩ fun h' eb => ⟨rfl, I.turned (t' := s.toks) (fun b o hb q => eb b o hb q) f0 f1 f3 f4 f5⟩
  self := fun A i s Q E st h => let ⟨⟨_, he⟩, _⟩ := st; wpAny_pyIter_enum he h
def iEnumA (K : PySem.W.Frag) (ta : TA) : TI := fun σ H R => ta σ H fun vs H1 => ∃ a xs, vs = [.ref a] ∧ ((SqL K H1 a xs ∧ R (Ite K a) H1) ∨ (SqT K H1 a xs ∧ R (IteT K a) H1))
theorem pi_enumA {X : Cx} {e : Expr} {ta : TA} {p pos tpos : Pos} {elts : List Expr} {kk : Nat} (hg : Gl X "enumerate") (hm : X.mg "enumerate" = none) (ha : PA X [e] ta) (hs : starEach [e] X.env = [(false, eval e X.env)] := by rfl) :
    PI X (.Tuple elts kk tpos) (.Call (.Name "enumerate" p) [e] [] pos) (iEnumA X.K ta) := by
  refine ⟨fun pins s σ H R I h => ?_⟩
  refine Call_ (ld_blt I hg hm boot_enumerate (PyProof.Rows.callWith_type1 (thn (ha.run pos pins s σ H _ I h) fun us s1 ⟨vs, H1, I1, r1, q1⟩ => ?_) hs rfl))
  obtain ⟨a, xs, ex, q⟩ := q1
  subst ex
  cases r1 with
  | cons r rr =>
    cases rr
    cases r
    have fresh2 : ∀ b, b ∈ [s1.heap.objs.size + 1, s1.heap.objs.size] → FpOk X pins H1 b := fun b hb => by
      have e' : b = s1.heap.objs.size + 1 ∨ b = s1.heap.objs.size := by simpa using hb
      have hle : s1.heap.objs.size ≤ b := by
        rcases e' with z | z
        · rw [z]; exact Nat.le_add_right _ _
        · rw [z]; exact Nat.le_refl _
      exact I1.fpOk hle (I1.hok.fresh hle)
    rcases q with ⟨hq, q⟩ | ⟨hq, q⟩
    · obtain ⟨its, rv, p', hz⟩ := I1.list hq
      refine call_enumerate_list p'.isList fun h' he hit hsz hk => wpAny_pyIter_enum he ?_
      have I2 : Inv X pins σ H1 { s1 with heap := h' } := I1.kept (t' := s1.toks) hk
      exact ⟨s1.heap.objs.size + 1, [s1.heap.objs.size + 1, s1.heap.objs.size], _, _, H1, rfl, I2, turn_enum a (s1.heap.objs.size + 1) s1.heap.objs.size, ⟨⟨.none, he⟩, hit, Nat.succ_ne_self _⟩, fresh2, q⟩
    · obtain ⟨its, rv, p', hz⟩ := I1.tuple hq
      refine enT_call_enumT (show s1.heap.IsTuple a its.toArray from p') fun h' he hit hsz hk => wpAny_pyIter_enum he ?_
      have I2 : Inv X pins σ H1 { s1 with heap := h' } := I1.kept (t' := s1.toks) hk
      exact ⟨s1.heap.objs.size + 1, [s1.heap.objs.size + 1, s1.heap.objs.size], _, _, H1, rfl, I2, turn_enumT a (s1.heap.objs.size + 1) s1.heap.objs.size, ⟨⟨.none, he⟩, hit, Nat.succ_ne_self _⟩, fresh2, q⟩
def dEnumA (t : DA) : DI := fun δ M R => t δ M fun ds M1 => (∃ xs, (ds = [.lst xs] ∨ ds = [.tup xs]) ∧ R (enumD 0 xs) always M1) ∨ ∃ p xs, ds = [.ref p] ∧ M1 p = some (.lst xs) ∧ R (enumD 0 xs) (fun M' => M' p = some (.lst xs)) M1
theorem walkD_enumT {O : Own} {H0 M0} {a : Addr} {xs : List D} (fa : ∀ O' H M, Cv O H0 M0 O' H M → Good O' H M → ∃ vs, SqT O.K H a vs ∧ Reps O' H M xs vs) : WalkD O (IteT O.K a) H0 M0 (enumD 0 xs) always where
  goes := fun i O' H M hi z g c => by
    rw [enumD_length] at hi
    obtain ⟨vs, h1, h2⟩ := fa O' H M z g
    have l1 : i < vs.length := by rw [← h2.length]; exact hi
    exact ⟨vs, vs[i], h1, List.getElem?_eq_getElem l1⟩
  stops := fun O' H M z g c => by
    obtain ⟨vs, h1, h2⟩ := fa O' H M z g
    exact ⟨vs, h1, by rw [enumD_length, h2.length]; exact Nat.le_refl _⟩
  yields := fun i O' H M d v H' hd z g c y => by
    obtain ⟨T, u, rfl, hT, rfl, f1⟩ := y
    obtain ⟨x, hx, rfl⟩ := enumD_get hd
    obtain ⟨vs, h1, h2⟩ := fa O' H M z g
    obtain ⟨d1, e1, r1⟩ := h2.getV (f1 vs h1)
    rw [hx] at e1; cases e1
    rw [Nat.zero_add]
    exact pair_new g hT (x := .int ((i : Nat) : Int)) (u := .int ((i : Nat) : Int)) rfl r1
section
variable {X : Cx} {CR : Addr} {E : DXS} {W : WX} {pos : Pos}
theorem i_enumA {e : Expr} {ta : DA} {p tpos : Pos} {elts : List Expr} {kk : Nat} (hm : X.mg "enumerate" = none) (ha : PDA X (bs X CR E W) [e] ta) (hg : Gl X "enumerate" := by rfl)
    (hs : starEach [e] X.env = [(false, eval e X.env)] := by rfl) :
    PDI X (bs X CR E W) (.Tuple elts kk tpos) (.Call (.Name "enumerate" p) [e] [] pos) (dEnumA ta) := by
  refine (pi_enumA hg hm ha hs).imp fun σ H R h => ?_
  obtain ⟨P, δ, M, Rd, hS, g, x, w, k⟩ := h
  refine ⟨P, δ, M, _, hS, g, x, w, fun vs H1 ds M1 z1 g1 rs q => ?_⟩
  rcases q with ⟨xs, rfl | rfl, q⟩ | ⟨p, xs, rfl, em, q⟩
  · obtain ⟨v, r, rfl, ⟨a, va, rfl, f1, r1⟩, e3⟩ := rs
    rw [show r = [] from e3]
    exact ⟨a, va, rfl, .inl ⟨f1.sq, k _ H1 _ _ M1 z1 g1 (walkD_enum (chk := always) fun O' H M z g _ => ⟨va, z.k ▸ (f1.cv z).sq, r1.cv z⟩) q⟩⟩
  · obtain ⟨v, r, rfl, ⟨a, va, rfl, f1, r1⟩, e3⟩ := rs
    rw [show r = [] from e3]
    exact ⟨a, va, rfl, .inr ⟨f1.sq, k _ H1 _ _ M1 z1 g1 (walkD_enumT fun O' H M z g => ⟨va, z.k ▸ (f1.cv z).sq, r1.cv z⟩) q⟩⟩
  · obtain ⟨v, r, rfl, rv, e3⟩ := rs
    rw [show r = [] from e3, show v = .ref p from rv]
    obtain ⟨va, e1, r1⟩ := g1.at_ p _ em
    exact ⟨p, va, rfl, .inl ⟨.of e1, k _ H1 _ _ M1 z1 g1 (walkD_enum (chk := fun M' => M' p = some (.lst xs)) fun O' H M z g c => by
      obtain ⟨va, e1, r1⟩ := g.at_ p _ c
      exact ⟨va, .of e1, r1⟩) q⟩⟩
end
/-! ### in, not in: a number in a tuple, a list of numbers -/
def intsOf : List D → Option (List Int)
  | [] => some []
  | .int i :: ds => (intsOf ds).map (i :: ·)
  | _ :: _ => none
def rInQ (neg : Bool) : D2 := fun a b M Q => ∃ (i : Int) (ds : List D) (ns : List Int), a = .int i ∧ (b = .tup ds ∨ b = .lst ds) ∧ intsOf ds = some ns ∧ Q (.bl (if neg then !decide (i ∈ ns) else decide (i ∈ ns))) M
theorem ints_reps {O : Own} {H : Hp} {M : Mem} : ∀ {ds : List D} {ns : List Int} {vs : List V}, intsOf ds = some ns → Reps O H M ds vs → vs = ns.map V.int
  | [], ns, vs, h, r => by
    rw [show vs = [] from r]
    cases h; rfl
  | d :: ds, ns, vs, h, r => by
    obtain ⟨v, us, rfl, r1, r2⟩ := r
    cases d with
    | int i =>
      unfold intsOf at h
      cases e : intsOf ds with
      | none => rw [e] at h; cases h
      | some ms =>
        rw [e] at h; cases h
        rw [show v = .int i from r1, ints_reps e r2]; rfl
    | _ => cases h
theorem inV_int (i : Int) : ∀ ns : List Int, (ns.map V.int).all flatV = true ∧ inV (.int i) (ns.map V.int) = decide (i ∈ ns)
  | [] => ⟨rfl, (decide_eq_false (List.not_mem_nil)).symm⟩
  | n :: ns => by
    obtain ⟨h1, h2⟩ := inV_int i ns
    refine ⟨by rw [List.map_cons, List.all_cons, h1]; rfl, ?_⟩
    unfold inV at h2 ⊢
    rw [List.map_cons, List.any_cons, h2]
    show ((n == i) || decide (i ∈ ns)) = decide (i ∈ n :: ns)
    by_cases e : i = n
    · subst e
      rw [decide_eq_true (List.mem_cons_self), show (i == i) = true from beq_self_eq_true i]; rfl
    · have e1 : (n == i) = false := by
        cases h : n == i with
        | true => exact absurd (eq_of_beq h).symm e
        | false => rfl
      rw [e1, Bool.false_or]
      by_cases m : i ∈ ns
      · rw [decide_eq_true m, decide_eq_true (List.mem_cons_of_mem _ m)]
      · rw [decide_eq_false m, decide_eq_false fun z => (List.mem_cons.mp z).elim e m]
section
variable {X : Cx} {CR : Addr}
theorem o_inQ : OpR X (compareOp .In) (l2 X.K CR (rInQ false)) := op_in_seq.imp fun x y H Q hh => by
  obtain ⟨P, a, b, M, Qd, ra, rb, gd, ⟨i, ds, ns, rfl, hb, hn, q⟩, k⟩ := hh
  rw [show x = .int i from ra]
  obtain ⟨h1, h2⟩ := inV_int i ns
  rcases hb with rfl | rfl
  · obtain ⟨p, vs, rfl, f, rs⟩ := rb
    rw [ints_reps hn rs] at f
    exact ⟨p, _, rfl, .inr f.sq, rfl, h1, by rw [h2]; exact k _ _ (lf_bl gd q)⟩
  · obtain ⟨p, vs, rfl, f, rs⟩ := rb
    rw [ints_reps hn rs] at f
    exact ⟨p, _, rfl, .inl f.sq, rfl, h1, by rw [h2]; exact k _ _ (lf_bl gd q)⟩
theorem o_notInQ : OpR X (compareOp .NotIn) (l2 X.K CR (rInQ true)) := op_notIn_seq.imp fun x y H Q hh => by
  obtain ⟨P, a, b, M, Qd, ra, rb, gd, ⟨i, ds, ns, rfl, hb, hn, q⟩, k⟩ := hh
  rw [show x = .int i from ra]
  obtain ⟨h1, h2⟩ := inV_int i ns
  rcases hb with rfl | rfl
  · obtain ⟨p, vs, rfl, f, rs⟩ := rb
    rw [ints_reps hn rs] at f
    exact ⟨p, _, rfl, .inr f.sq, rfl, h1, by rw [h2]; exact k _ _ (lf_bl gd q)⟩
  · obtain ⟨p, vs, rfl, f, rs⟩ := rb
    rw [ints_reps hn rs] at f
    exact ⟨p, _, rfl, .inl f.sq, rfl, h1, by rw [h2]; exact k _ _ (lf_bl gd q)⟩
end
/-! DLG: names from a list. -/
open PySem
open PySem.Sem (wp)
section
variable {prog : Program} {w : World} {A : Around} {E : Value → Shared → Prop} {s : Shared}
theorem unL_draw {it t : Addr} {items : Array Value} (hne : t ≠ it) : ∀ (n i : Nat) (s : Shared) (Q : List Value → Shared → Prop), s.heap.IsListIter it t i → s.heap.IsList t items → i + n ≤ items.size →
    (∀ h', h'.IsListIter it t (i + n) → Heap.SameBut it s.heap h' → Q ((items.toList.drop i).take n) { s with heap := h' }) → wpAny (model prog w) A (draw (.ref it) n) Q E s
  | 0, i, s, Q, hit, _, _, hQ => by
    show wpAny _ _ (pure []) Q E s
    exact wpAny_pure (by simpa using hQ s.heap hit (Heap.SameBut.refl ..))
  | n + 1, i, s, Q, hit, ht, hle, hQ => by
    have hlt : i < items.size := by omega
    show wpAny _ _ (pyNext (.ref it) >>= _) Q E s
    refine wpAny_bind (wpAny_pyNext_list_item hit ht (x := items[i]) (by simp [hlt]) fun h₁ hit₁ hs₁ => ?_)
    refine wpAny_bind (wpAny_holding (unL_draw hne n (i + 1) _ _ hit₁ (ht.extBut hs₁.extBut hne) (by omega) fun h₂ hit₂ hs₂ => wpAny_pure ?_))
    have hd : items.toList.drop i = items[i] :: items.toList.drop (i + 1) := by simp [List.drop_eq_getElem_cons, hlt]
    have := hQ h₂ (by rw [show i + (n + 1) = i + 1 + n by omega]; exact hit₂) (hs₁.trans hs₂)
    rw [hd, List.take_succ_cons] at this
    exact this
theorem unL_items {t : Addr} {items : Array Value} {Q : List Value → Shared → Prop} (hh : A.handled = none) (ht : s.heap.IsList t items)
    (hQ : ∀ h', Heap.ExtBut s.heap.objs.size s.heap h' → Q items.toList { s with heap := h' }) : wpAny (model prog w) A (unpackItems (.ref t) items.size none) Q E s := by
  have hlt : t ≠ s.heap.objs.size := by obtain ⟨o, ho, _⟩ := ht; exact Nat.ne_of_lt (Heap.lt_size ho)
  unfold unpackItems
  refine wpAny_bind ?_
  · unfold notIterableAtAll
    refine wpAny_bind (wpAny_specialOf ht.typeIs slot_list_iter.lookup ?_)
    refine wpAny_pure ?_
    simp only [Bool.false_eq_true, if_false]
    refine wpAny_bind (wpAny_holding (wpAny_pyIter_list ht ?_))
    refine wpAny_bind (wpAny_holding (unL_draw hlt items.size 0 _ _ ⟨_, Heap.get?_push_size _ rfl, rfl, rfl⟩ (ht.push _) (by omega) fun h₁ hit₁ hs₁ => ?_))
    have hall : List.take items.size (List.drop 0 items.toList) = items.toList := by
      rw [List.drop_zero]; exact List.take_of_length_le (by simp)
    rw [hall]
    rw [if_neg (by simp)]
    have ht₁ : h₁.IsList t items := (ht.push _).extBut hs₁.extBut hlt
    refine wpAny_bind (wpAny_holding (wpAny_pyNext_list_end hh hit₁ ht₁ (by simp) fun h₂ he₂ => ?_))
    simp only [Option.isSome_none, Bool.false_eq_true, if_false]
    refine wpAny_pure (hQ h₂ fun b o hb e => he₂ b o hb (hs₁.extBut b o hb (Heap.get?_push_of_some _ e)))
theorem unL_assign {env : Env} {elts : List Expr} {x1} {pos : Pos} {t : Addr} {items : Array Value} {Q : Unit → Shared → Prop} (hh : A.handled = none) (ht : s.heap.IsList t items)
    (hn : (assignEach elts env).length = items.size) (hstar : (assignEach elts env).findIdx? (·.1) = none)
    (h : ∀ h', Heap.ExtBut s.heap.objs.size s.heap h' → wpAny (model prog w) A (assignInOrder ((assignEach elts env).map (·.2)) items.toList) Q E { s with heap := h' }) :
    wpAny (model prog w) A (assign (.Tuple elts x1 pos) env (.ref t)) Q E s := by
  rw [PyProof.Rows.assign_Tuple]
  refine wpAny_bind (wpAny_standAt ?_)
  unfold unpack
  rw [hn, hstar]
  exact wpAny_bind (wpAny_holding (unL_items hh ht h))
end
section
variable {X : Cx} {CR : Addr} {E : DXS} {W : WX} {pos : Pos}
def gTupL (K : PySem.W.Frag) (n : Nat) (t : TGs) : TG := fun v σ H Q => ∃ a xs, v = .ref a ∧ SqL K H a xs ∧ xs.length = n ∧ t xs σ H Q
theorem pg_tupL {es : List Expr} {k : Nat} {t : TGs} {n : Nat} (hc : X.calm = true) (h : PGs X es t)
    (hn : (assignEach es X.env).length = n := by rfl) (hst : (assignEach es X.env).findIdx? (·.1) = none := by rfl) : PG X (.Tuple es k pos) (gTupL X.K n t) := by
  refine ⟨fun pins s σ H v u Q I r hw => ?_⟩
  obtain ⟨a, xs, e1, hq, hl, hw⟩ := hw
  subst e1
  cases r
  obtain ⟨its, rv, ht, hz⟩ := I.list hq
  refine unL_assign (I.ok.hd hc) ht.isList (by simp [hn, ← hl, rv.length]) hst fun h' hx => ?_
  have I1 : Inv X pins σ H { s with heap := h' } := I.kept (t' := s.toks) fun b o e => hx b o (Nat.ne_of_lt (Heap.lt_size e)) e
  exact h.run pins _ σ H xs _ Q I1 (by simpa using rv) hw
def gTuL (n : Nat) (t : DGs) : DG := fun d δ M Q => ∃ xs, d = .lst xs ∧ xs.length = n ∧ t xs δ M Q
theorem g_tuL {es : List Expr} {k : Nat} {t : DGs} {n : Nat} (hc : X.calm = true) (h : PDGs X (bs X CR E W) es t)
    (hn : (assignEach es X.env).length = n := by rfl) (hst : (assignEach es X.env).findIdx? (·.1) = none := by rfl) : PDG X (bs X CR E W) (.Tuple es k pos) (gTuL n t) := by
  refine (pg_tupL hc h hn hst).imp fun v σ H Q h => ?_
  obtain ⟨P, d, δ, M, Qd, r, hS, g, x, ⟨xs, e, hl, q⟩, k⟩ := h
  subst e
  obtain ⟨a, vs, rfl, f, rs⟩ := r
  exact ⟨a, vs, rfl, f.sq, by rw [← rs.length]; exact hl, P, xs, δ, M, Qd, rs, hS, g, x, q, k⟩
end
open PySem PySem.SeqAt
open MeetsSeq MeetsSeq2 MeetsSeq3 SeqRoads2
/-! ### list.remove with any == -/
section
variable {prog : Program} {w : World} {A : Around} {R : Result → Shared → Prop}
theorem remove_loopG (l : Addr) (x : Value) (N : Nat) (c : Nat → Bool) (I : Nat → Shared → Prop) (j : Nat)
    (at_ : ∀ i s, I i s → ∃ (items : Array Value) (n : Nat), s.heap.get? l = some { cls := .type "list", dict := none, data := .seq items n, slots := #[] } ∧ items.size = N ∧
      ∀ (h : i < items.size), i ≤ j → wpAny (model prog w) A.in1 (eqBool items[i] x) (fun r s' => r = c i ∧ I (i + 1) s') (fun e s' => R (.error e) s') s)
    (hj : j < N) (hit : c j = true) (hno : ∀ i, i < j → c i = false) (hs1 : N ≤ sizeLine)
    (fin : ∀ s, I (j + 1) s → R (.ok (.ret .none)) { s with heap := s.heap.update l (Obj.mapSeq fun xs => xs.eraseIdxIfInBounds j) }) (k : Nat) :
    ∀ i : Nat, j - i = k → i ≤ j → ∀ s, I i s → wpAny (model prog w) A.in1 (Builtin.«list.remove.loop» ⟨[.ref l, x, rawInt i], []⟩) (GQ.FinOf prog w A R) (fun e s' => R (.error e) s') s := by
  induction k with
  | zero =>
    intro i hk hij s h
    obtain ⟨items, n, hl, hN, turn⟩ := at_ i s h
    have hij' : i = j := by omega
    subst hij'
    obtain ⟨hp, g, d, tk, os⟩ := s
    wp_walk using AutoSeq1.wpAny_loadPart' hl
    have hi : items[((i : Nat) : Int).toNat]? = some items[i] := by simp [hN, hj]
    rw [hi]
    refine wpAny_bind (wpAny_mono (turn (by omega) (by omega)) (fun r s2 q => ?_) fun _ _ z => z)
    obtain ⟨hr, hI2⟩ := q
    rw [hr, hit]
    obtain ⟨items2, n2, hl2, hN2, _⟩ := at_ _ _ hI2
    have q := fin s2 hI2
    obtain ⟨hp2, g2, d2, tk2, os2⟩ := s2
    have hz : items2.size ≤ sizeLine := by omega
    have hz' : (items2.eraseIdxIfInBounds i).size ≤ sizeLine + 1 := Nat.le_trans (size_erased items2 _) (Nat.le_succ_of_le hz)
    wp_walk using (wpAny_updateSeq hl2 rfl (hz := hz) (_hz' := hz')), AutoSeq1.wpAny_loadPart' hl2
    simpa using q
  | succ k ih =>
    intro i hk hij s h
    obtain ⟨items, n, hl, hN, turn⟩ := at_ i s h
    obtain ⟨hp, g, d, tk, os⟩ := s
    have hlt : i < items.size := by omega
    wp_walk using AutoSeq1.wpAny_loadPart' hl
    have hi : items[((i : Nat) : Int).toNat]? = some items[i] := by simp [hlt]
    have hc : ((i : Int) + 1) = ((i + 1 : Nat) : Int) := by push_cast; rfl
    rw [hi]
    refine wpAny_bind (wpAny_mono (turn hlt (by omega)) (fun r s2 q => ?_) fun _ _ z => z)
    obtain ⟨hr, hI2⟩ := q
    rw [hr, hno i (by omega)]
    wp_walk
    rw [hc]
    exact ⟨plainId_quiet plain_remove_loop _, codeAny_builtin entry_remove_loop (by
      rw [Around.under_plainId plain_remove_loop _]
      exact ih (i + 1) (by omega) (by omega) _ hI2)⟩
theorem removeG (l : Addr) (x : Value) (N : Nat) (c : Nat → Bool) (I : Nat → Shared → Prop) (j : Nat)
    (at_ : ∀ i s, I i s → ∃ (items : Array Value) (n : Nat), s.heap.get? l = some { cls := .type "list", dict := none, data := .seq items n, slots := #[] } ∧ items.size = N ∧
      ∀ (h : i < items.size), i ≤ j → wpAny (model prog w) A.in1 (eqBool items[i] x) (fun r s' => r = c i ∧ I (i + 1) s') (fun e s' => R (.error e) s') s)
    (hj : j < N) (hit : c j = true) (hno : ∀ i, i < j → c i = false) (hs1 : N ≤ sizeLine)
    (fin : ∀ s, I (j + 1) s → R (.ok (.ret .none)) { s with heap := s.heap.update l (Obj.mapSeq fun xs => xs.eraseIdxIfInBounds j) }) {s : Shared} (h : I 0 s) :
    wpAny (model prog w) A.in1 (Builtin.«list.remove» ⟨[.ref l, x], []⟩) (GQ.FinOf prog w A R) (fun e s' => R (.error e) s') s := by
  obtain ⟨items, n, hl, hN, turn⟩ := at_ 0 s h
  have h0 := h
  obtain ⟨hp, g, d, tk, os⟩ := s
  wp_walk using AutoSeq1.wpAny_loadPart' hl
  exact ⟨plainId_quiet plain_remove_loop _, codeAny_builtin entry_remove_loop (by
    rw [Around.under_plainId plain_remove_loop _]
    exact remove_loopG l x N c I j at_ hj hit hno hs1 fin _ 0 rfl (Nat.zero_le _) _ h0)⟩
end
section
open PySem.Spec PyProof.Rows L2
variable {X : Cx} {CR : Addr} {E : DXS} {W : WX}
/-- the first that is equal stands at j -/
structure RemAt (f : Ans) (xs : List D) (y : D) (j : Nat) : Prop where
  lt : j < xs.length
  no : ∀ i d, i < j → xs[i]? = some d → f d y = some false
  yes : ∀ d, xs[j]? = some d → f d y = some true
def rRemV (K : PySem.W.Frag) (CR : Addr) (f : Ans) : V → List V → Hp → VK → Prop := fun x vs H Q => ∃ (P : Addr → Prop) (p : Addr) (xs : List D) (y : D) (M : Mem) (Qd : DK) (j : Nat) (v : V),
  x = .ref p ∧ vs = [v] ∧ M p = some (.lst xs) ∧ Good ⟨K, CR, P⟩ H M ∧ Rep ⟨K, CR, P⟩ H M y v ∧ RemAt f xs y j ∧ Qd .non (mput M p (.lst (xs.eraseIdx j))) ∧ ∀ v H', LfV ⟨K, CR, P⟩ H M Qd v H' → Q v H'
theorem reps_erase {O : Own} {H M} : ∀ {ds : List D} {vs : List V} (j : Nat), Reps O H M ds vs → Reps O H M (ds.eraseIdx j) (vs.eraseIdx j)
  | [], vs, j, h => by rw [show vs = [] from h]; exact rfl
  | d :: ds, vs, 0, h => by
    obtain ⟨v, r, rfl, h1, h2⟩ := h
    exact h2
  | d :: ds, vs, j + 1, h => by
    obtain ⟨v, r, rfl, h1, h2⟩ := h
    exact ⟨v, _, rfl, h1, reps_erase j h2⟩
theorem mt_remT {k : Nat} {f : Ans} (hf : EqOk X CR k f) (hr : Room (k + 1) X.A) : MtM X "list.remove" (rRemV X.K CR f) := by
  intro pins s σ H x vs v us Q I rx rv h
  obtain ⟨P, p, xs, y, M, Qd, j, vy, rfl, rfl, em, g, ry, hRem, q, kk⟩ := h
  obtain rfl : v = Value.ref p := rx
  obtain ⟨u, rfl, ru⟩ := rv.one
  obtain ⟨vs0, eh0, rs0⟩ := g.at_ p _ em
  obtain ⟨z0, its0, n0, r0, hl0, e0⟩ := I.lstM eh0
  have sb : Sub X (k + 1) X.A := ⟨hr, rfl⟩
  refine GQ.call_here PySem.F.slot_list_remove ⟨_, e0, rfl⟩ PySem.F.entry_list_remove (PySem.F.args_list_remove_2 _ _) ?_
  refine removeG p u xs.length (fun i => decide (i = j)) (fun i s' => i ≤ j + 1 ∧ ∃ H', Inv X pins σ H' s' ∧ Fz ⟨X.K, CR, P⟩ H M H' M ∧ Good ⟨X.K, CR, P⟩ H' M) j (fun i s' h => ?_) hRem.lt (decide_eq_true rfl) (fun i hi => decide_eq_false (by omega)) (by rw [rs0.length]; exact z0) (fun s' h => ?_) ⟨Nat.zero_le _, H, I, Fz.refl, g⟩
  · obtain ⟨hij, H', I', z', g'⟩ := h
    obtain ⟨vs1, eh1, rs1⟩ := g'.at_ p _ em
    obtain ⟨z1, its1, n1, r1, hl1, e1⟩ := I'.lstM eh1
    have len1 : its1.length = xs.length := by rw [← hl1, rs1.length]
    refine ⟨its1.toArray, n1, e1, by rw [List.size_toArray]; exact len1, fun hi hj1 => ?_⟩
    have hix : i < xs.length := by rw [List.size_toArray] at hi; omega
    obtain ⟨w, ew, rw'⟩ := rs1.get (List.getElem?_eq_getElem hix)
    obtain ⟨t, et, rt⟩ := r1.get ew
    have ai : its1.toArray[i] = t := by
      have : its1[i]? = some t := et
      rw [List.getElem?_eq_getElem (by omega)] at this
      simpa using Option.some.inj this
    rw [ai]
    have ha : f xs[i] y = some (decide (i = j)) := by
      by_cases e : i = j
      · rw [decide_eq_true e]; exact hRem.yes _ (e ▸ List.getElem?_eq_getElem hix)
      · rw [decide_eq_false e]; exact hRem.no i _ (by omega) (List.getElem?_eq_getElem hix)
    refine wpAny_mono (hf X.A.in1 pins s' σ H' P M _ _ w vy t u _ sb.in1 I' rt ru g' rw' (ry.mono z') ha) (fun r s2 q2 => ?_) fun _ _ z => z
    obtain ⟨hr2, H2, I2, z2, g2⟩ := q2
    exact ⟨hr2, by omega, H2, I2, z'.trans z2, g2⟩
  · obtain ⟨hij, H', I', z', g'⟩ := h
    obtain ⟨vs1, eh1, rs1⟩ := g'.at_ p _ em
    obtain ⟨z1, its1, n1, r1, hl1, e1⟩ := I'.lstM eh1
    have z3 : Fz ⟨X.K, CR, P⟩ H' M (upd H' p (.lst (vs1.eraseIdx j))) (mput M p (.lst (xs.eraseIdx j))) := fz_put g' em
    refine ⟨.non, _, I'.lset (its' := its1.eraseIdx j) (f := fun a => a.eraseIdxIfInBounds j) eh1 e1 ?_ (r1.eraseIdx j) ?_, rfl, kk _ _ ⟨.non, _, z'.trans z3, good_put g' (g'.noP em) z3 (show RepO _ _ _ p (.lst _) from ⟨_, upd_same, (reps_erase j rs1).mono z3⟩), rfl, q⟩⟩
    · show its1.toArray.eraseIdxIfInBounds j = (its1.eraseIdx j).toArray
      rw [List.eraseIdxIfInBounds_toArray]
    · have := len_erase vs1 j
      omega
def rRemD (f : Ans) : D → List D → Mem → DK → Prop := fun o ds M Q => ∃ p xs y j, o = .ref p ∧ ds = [y] ∧ M p = some (.lst xs) ∧ RemAt f xs y j ∧ Q .non (mput M p (.lst (xs.eraseIdx j)))
def dRem (f : Ans) (w : DE) (t : DA) : DE := fun δ M Q => w δ M fun o M1 => isLstD o M1 ∧ t δ M1 fun ds M2 => rRemD f o ds M2 Q
theorem d_rem {f : Ans} {e : Expr} {w : DE} {t : DA} (h : PE X e (tBM X.K "list" (rRemV X.K CR f) (lE (bs X CR E W) w) (lA (bs X CR E W) t))) : PD X (bs X CR E W) e (dRem f w t) := by
  refine h.imp fun σ H Q h => ?_
  obtain ⟨P, δ, M, Qd, hS, g, x, w, k⟩ := h
  refine ⟨P, δ, M, _, hS, g, x, w, fun v H1 ⟨d, M1, z1, g1, r1, ⟨p, xs, ed, em⟩, q⟩ => ?_⟩
  subst ed
  obtain ⟨vs, eh, rs⟩ := g1.at_ p _ em
  rw [show v = .ref p from r1]
  refine ⟨.inl ⟨rfl, vs, .of eh⟩, P, δ, M1, _, hS.mono z1, g1, x.trans z1, q, fun us H2 ds M2 z2 g2 rs2 q2 => ?_⟩
  obtain ⟨p', xs', y, j, ep, rfl, em', hRem, q3⟩ := q2
  cases ep
  obtain ⟨u, r, rfl, r1', r2⟩ := rs2
  exact ⟨P, p, xs', y, M2, Qd, j, u, rfl, by rw [show r = [] from r2], em', g2, r1', hRem, q3, fun v H' l => k _ _ (l.trans (z1.trans z2))⟩
/-- list.pop at a place -/
def rPopD : D → List D → Mem → DK → Prop := fun o ds M Q => ∃ p xs i y, o = .ref p ∧ ds = [.int (i : Nat)] ∧ M p = some (.lst xs) ∧ i < 1000000 ∧ xs[i]? = some y ∧ Q y (mput M p (.lst (xs.eraseIdx i)))
def dPop (w : DE) (t : DA) : DE := fun δ M Q => w δ M fun o M1 => isLstD o M1 ∧ t δ M1 fun ds M2 => rPopD o ds M2 Q
theorem d_pop {e : Expr} {w : DE} {t : DA} (h : PE X e (tBM X.K "list" rPopAt (lE (bs X CR E W) w) (lA (bs X CR E W) t))) : PD X (bs X CR E W) e (dPop w t) := by
  refine h.imp fun σ H Q h => ?_
  obtain ⟨P, δ, M, Qd, hS, g, x, w, k⟩ := h
  refine ⟨P, δ, M, _, hS, g, x, w, fun v H1 ⟨d, M1, z1, g1, r1, ⟨p, xs, ed, em⟩, q⟩ => ?_⟩
  subst ed
  obtain ⟨vs, eh, rs⟩ := g1.at_ p _ em
  rw [show v = .ref p from r1]
  refine ⟨.inl ⟨rfl, vs, .of eh⟩, P, δ, M1, _, hS.mono z1, g1, x.trans z1, q, fun us H2 ds M2 z2 g2 rs2 q2 => ?_⟩
  obtain ⟨p', xs', i, y, ep, rfl, em', hi, ey, q3⟩ := q2
  cases ep
  obtain ⟨u, r, rfl, r1', r2⟩ := rs2
  obtain ⟨vs', eh', rs'⟩ := g2.at_ p _ em'
  obtain ⟨v, ev, rv⟩ := rs'.get ey
  have z3 : Fz ⟨X.K, CR, P⟩ H2 M2 (upd H2 p (.lst (vs'.eraseIdx i))) (mput M2 p (.lst (xs'.eraseIdx i))) := fz_put g2 em'
  have hl : i < vs'.length := (List.getElem?_eq_some_iff.mp ev).1
  have hs : seqIndex? (i : Int) vs'.length = some i := by
    have := PyProof.Rows.seqIndex_at (i := (i : Int)) (n := vs'.length) (by omega) (by omega)
    rw [this, Int.toNat_natCast]
  refine ⟨p, vs', (i : Int), i, v, rfl, by rw [show r = [] from r2, show u = .int _ from r1'], eh', by omega, by omega, hs, ev, ?_⟩
  exact k _ _ ⟨y, _, (z1.trans z2).trans z3, good_put g2 (g2.noP em') z3 (show RepO _ _ _ p (.lst _) from ⟨_, upd_same, (reps_erase i rs').mono z3⟩), rv.mono z3, q3⟩
/-- == of terms: a weight and a row -/
def ansTm : Ans := fun a b => match a, b with
  | .rat p, .rat q => some (decide (p = q))
  | .tup xs, .tup ys => ansT ansR (.tup xs) (.tup ys)
  | _, _ => none
theorem eqOk_mono {k m : Nat} {f : Ans} (h : EqOk X CR k f) (hk : k ≤ m) : EqOk X CR m f := fun A pins s σ H P M a b x y u v r sb => h A pins s σ H P M a b x y u v r (sb.mono hk)
theorem eqOk_tm (T : RatT X.prog X.w X.K X.mg X.base CR) : EqOk X CR 39 ansTm := fun A pins s σ H P M a b x y u v r sb I ru rv g ra rb h => by
  unfold ansTm at h
  split at h
  · exact eqOk_mono (eqOk_rat T) (by decide) A pins s σ H P M _ _ x y u v r sb I ru rv g ra rb (by unfold ansR; exact h)
  · exact eqOk_tup (eqOk_rat T) refl_rat A pins s σ H P M _ _ x y u v r sb I ru rv g ra rb h
  · cases h
theorem refl_tm : AnsRefl ansTm := fun O H M d e x r h1 h2 h => by
  unfold ansTm at h
  split at h
  · exact refl_rat O H M _ _ x r h1 h2 (by unfold ansR; exact h)
  · exact refl_tup refl_rat O H M _ _ x r h1 h2 h
  · cases h
theorem eqOk_term (T : RatT X.prog X.w X.K X.mg X.base CR) : EqOk X CR 40 (ansT ansTm) := eqOk_tup (eqOk_tm T) refl_tm
theorem d_remT {k : Nat} (T : RatT X.prog X.w X.K X.mg X.base CR) (hr : Room k X.A) (hk : 41 ≤ k := by decide) : MtM X "list.remove" (rRemV X.K CR (ansT ansTm)) := mt_remT (eqOk_term T) (hr.mono hk)
end
/-! ### texts -/
theorem hu65 {A : Around} {k : Nat} (hr : Room k A) : A.units + 65 < cLine := by have := hr.un; omega
theorem reps_strs {O : Own} {H M} : ∀ ns : List Str, Reps O H M (ns.map D.str) (ns.map V.str)
  | [] => rfl
  | n :: ns => ⟨_, _, rfl, rfl, reps_strs ns⟩
section
variable {X : Cx} {CR : Addr} {E : DXS} {W : WX} {pos apos : Pos} {o e : Expr} {w v : DE}
def dSplit (w v : DE) : DE := fun δ M Q => w δ M fun x M1 => (∃ a, x = .str a) ∧ v δ M1 fun y M2 => ∃ a b, x = .str a ∧ y = .str b ∧ (b.length == 0) = false ∧ a.length + 2 ≤ sizeLine ∧ Q (.lst ((Txt.split a b).map D.str)) M2
theorem d_split (ho : PD X (bs X CR E W) o w) (he : PD X (bs X CR E W) e v) (hs : starEach [e] X.env = [(false, eval e X.env)] := by rfl) (hbase : attributeBase o "split" X.env (eval o X.env) = eval o X.env := by rfl) (hline : (apos.endLine == pos.line) = true := by rfl) : PD X (bs X CR E W) (.Call (.Attribute o "split" apos) [e] [] pos) (dSplit w v) := by
  refine (pe_split ho he hs hbase hline).imp fun σ H Q h => ?_
  obtain ⟨P, δ, M, Qd, hS, g, x, w, k⟩ := h
  refine ⟨P, δ, M, _, hS, g, x, w, fun vx H1 ⟨d, M1, z1, g1, r1, ⟨a, ea⟩, q⟩ => ?_⟩
  subst ea
  rw [show vx = .str a from r1]
  refine ⟨⟨a, rfl⟩, P, δ, M1, _, hS.mono z1, g1, x.trans z1, q, fun vy H2 ⟨d2, M2, z2, g2, r2, a', b, e1, e2, hb, hl, q2⟩ => ?_⟩
  cases e1
  subst e2
  rw [show vy = .str b from r2]
  exact ⟨a, b, rfl, rfl, hb, hl, fun p hp => k _ _ ((newL g2 hp (reps_strs _) q2).trans (z1.trans z2))⟩
def dStarts (w v : DE) : DE := fun δ M Q => w δ M fun x M1 => (∃ a, x = .str a) ∧ v δ M1 fun y M2 => ∃ a b, x = .str a ∧ y = .str b ∧ Q (.bl (Txt.startswith a b)) M2
theorem d_starts (ho : PD X (bs X CR E W) o w) (he : PD X (bs X CR E W) e v) (hs : starEach [e] X.env = [(false, eval e X.env)] := by rfl) (hbase : attributeBase o "startswith" X.env (eval o X.env) = eval o X.env := by rfl) (hline : (apos.endLine == pos.line) = true := by rfl) : PD X (bs X CR E W) (.Call (.Attribute o "startswith" apos) [e] [] pos) (dStarts w v) := by
  refine (pe_m1 PySem.F.slot_str_startswith PySem.F.type_str_startswith mt_startswith ho he hs hbase hline).imp fun σ H Q h => ?_
  obtain ⟨P, δ, M, Qd, hS, g, x, w, k⟩ := h
  refine ⟨P, δ, M, _, hS, g, x, w, fun vx H1 ⟨d, M1, z1, g1, r1, ⟨a, ea⟩, q⟩ => ?_⟩
  subst ea
  rw [show vx = .str a from r1]
  refine ⟨⟨a, rfl⟩, P, δ, M1, _, hS.mono z1, g1, x.trans z1, q, fun vy H2 ⟨d2, M2, z2, g2, r2, a', b, e1, e2, q2⟩ => ?_⟩
  cases e1
  subst e2
  rw [show vy = .str b from r2]
  exact ⟨a, b, rfl, rfl, k _ _ ((lf_bl g2 q2).trans (z1.trans z2))⟩
/-- slices of a text -/
def dSlS (w : DE) (l u : DO) : DE := fun δ M Q => w δ M fun d M1 => l δ M1 fun lo M2 => u δ M2 fun hi M3 => ∃ z, d = .str z ∧ z.length ≤ sizeLine ∧ Q (.str (cutS z lo hi)) M3
theorem d_slS {lo hi : Option Expr} {l u : DO} {p2 : Pos} (he : PD X (bs X CR E W) e w) (hl : PDO X (bs X CR E W) lo l) (hu : PDO X (bs X CR E W) hi u) : PD X (bs X CR E W) (.Subscript e (.Slice lo hi none p2) pos) (dSlS w l u) := by
  refine (pe_slice sl_str he hl hu).imp fun σ H Q h => ?_
  obtain ⟨P, δ, M, Qd, hS, g, x, w, k⟩ := h
  refine ⟨P, δ, M, _, hS, g, x, w, fun v H1 ⟨d, M1, z1, g1, r1, q1⟩ => ?_⟩
  refine ⟨P, δ, M1, _, hS.mono z1, g1, x.trans z1, q1, fun o H2 M2 z2 g2 q2 => ?_⟩
  refine ⟨P, δ, M2, _, (hS.mono z1).mono z2, g2, (x.trans z1).trans z2, q2, fun o2 H3 M3 z3 g3 q3 => ?_⟩
  obtain ⟨z, rfl, hz, q⟩ := q3
  rw [show v = .str z from r1]
  exact ⟨z, rfl, hz, k _ _ ((lf_str g3 q).trans ((z1.trans z2).trans z3))⟩
def rIntS : DC := fun ds M Q => ∃ a n, ds = [.str a] ∧ PySem.intText? a = some n ∧ a.length ≤ 640 ∧ Q (.int n) M
theorem c_intS : CallR X (.type "int") (lC X.K CR rIntS) := call_int_str.imp fun xs H Q hh => by
  obtain ⟨P, ds, M, Qd, rs, gd, ⟨a, n, rfl, h1, h2, q⟩, k⟩ := hh
  obtain ⟨v, r, rfl, r1, r2⟩ := rs
  rw [show r = [] from r2, show v = _ from r1]
  exact ⟨a, n, rfl, h1, h2, k _ _ (lf_int gd q)⟩
def rStrI : DC := fun ds M Q => ∃ i : Int, ds = [.int i] ∧ i.natAbs.log2 < 1920 ∧ Q (.str (Str.ofString (toString i))) M
theorem c_str : CallR X (.type "str") (lC X.K CR rStrI) := call_str_int.imp fun xs H Q hh => by
  obtain ⟨P, ds, M, Qd, rs, gd, ⟨i, rfl, h1, q⟩, k⟩ := hh
  obtain ⟨v, r, rfl, r1, r2⟩ := rs
  rw [show r = [] from r2, show v = _ from r1]
  exact ⟨i, rfl, h1, k _ _ (lf_str gd q)⟩
def rMax2 : DC := fun ds M Q => ∃ i j : Int, ds = [.int i, .int j] ∧ Q (.int (if j > i then j else i)) M
theorem c_max2 (hc : X.calm = true) : CallR X (.builtin "max") (lC X.K CR rMax2) := (call_max2 hc).imp fun xs H Q hh => by
  obtain ⟨P, ds, M, Qd, rs, gd, ⟨i, j, rfl, q⟩, k⟩ := hh
  obtain ⟨v, r, rfl, r1, v2, r2, rfl, r3, r4⟩ := rs
  rw [show r2 = [] from r4, show v = _ from r1, show v2 = _ from r3]
  exact ⟨i, j, rfl, k _ _ (lf_int gd q)⟩
/-- x in [..] of plain data -/
def rInP : D2 := fun a b M Q => ∃ ds : List D, b = .lst ds ∧ plD a 8 = true ∧ plD b 8 = true ∧ ∀ k : Bool, (k = true ↔ a ∈ ds) → Q (.bl k) M
theorem any_eqv {a : D} {n : Nat} (ha : plD a 8 = true) : ∀ {ds : List D}, plDs ds n = true → ((datDs ds).any (fun z => PyData.eqv z (datD a)) = true ↔ a ∈ ds)
  | [], _ => by simp [datDs]
  | d :: ds, h => by
    have h1 : plD d n = true ∧ plDs ds n = true := by
      have : (plD d n && plDs ds n) = true := h
      exact Bool.and_eq_true_iff.mp this
    show ((PyData.eqv (datD d) (datD a) || (datDs ds).any fun z => PyData.eqv z (datD a)) = true ↔ _)
    rw [Bool.or_eq_true, eqv_iff h1.1 ha, any_eqv ha h1.2, List.mem_cons]
    constructor
    · rintro (h | h)
      · exact .inl h.symm
      · exact .inr h
    · rintro (h | h)
      · exact .inl h.symm
      · exact .inr h
theorem o_inP (hu : X.A.units + 65 < cLine) : OpR X (compareOp .In) (l2 X.K CR rInP) := (op_inD hu).imp fun x y H Q hh => by
  obtain ⟨P, a, b, M, Qd, ra, rb, gd, ⟨ds, rfl, pa, pb, q⟩, k⟩ := hh
  exact ⟨_, _, dp_of pa ra, dp_of pb rb, shaped_of pa, shaped_of pb, k _ _ (lf_bl gd (q _ (any_eqv (n := 7) pa pb)))⟩
/-- a text times a number -/
def rMulS : D2 := fun a b M Q => ∃ (z : Str) (n : Int), a = .str z ∧ b = .int n ∧ PySem.MulOk z n ∧ Q (.str (Txt.mul z n)) M
theorem o_mulS : OpR X (binaryOp .Mult) (l2 X.K CR rMulS) := by
  intro pins s σ H x y v u Q I rx ry h
  obtain ⟨P, a, b, M, Qd, ra, rb, g, ⟨z, n, rfl, rfl, hm, q⟩, kk⟩ := h
  obtain rfl : x = V.str z := ra
  obtain rfl : y = V.int n := rb
  obtain ⟨t, rfl⟩ := rx
  obtain ⟨t', rfl⟩ := ry
  exact PySem.SB.mul hm fun t2 k => ⟨.str (Txt.mul z n), H, I.tok _, ⟨_, rfl⟩, kk _ _ (lf_str g q)⟩
/-! f-strings -/
def dFmt (w : DE) : DE := fun δ M Q => w δ M fun x M1 => (∃ y : Str, x = .str y ∧ y.length ≤ sizeLine ∧ Q (.str y) M1) ∨ ∃ i : Int, x = .int i ∧ i.natAbs.log2 < 1920 ∧ Q (.str (Str.ofString (toString i))) M1
theorem d_fmt (he : PD X (bs X CR E W) e w) : PD X (bs X CR E W) (.FormattedValue e (-1) none pos) (dFmt w) := by
  refine (pe_fmt he).imp fun σ H Q h => ?_
  obtain ⟨P, δ, M, Qd, hS, g, x, w, k⟩ := h
  refine ⟨P, δ, M, _, hS, g, x, w, fun vx H1 ⟨d, M1, z1, g1, r1, q⟩ => ?_⟩
  rcases q with ⟨y, rfl, hl, q⟩ | ⟨i, rfl, hl, q⟩
  · rw [show vx = .str y from r1]; exact .inl ⟨y, rfl, hl, k _ _ ((lf_str g1 q).trans z1)⟩
  · rw [show vx = .int i from r1]; exact .inr ⟨i, rfl, hl, k _ _ ((lf_str g1 q).trans z1)⟩
inductive PJD (X : Cx) (B : Bs) : List Expr → List DE → Prop where
  | nil : PJD X B [] []
  | cons {e : Expr} {w : DE} {es : List Expr} {ws : List DE} (h : PD X B e w) (r : PJD X B es ws) : PJD X B (e :: es) (w :: ws)
def dJs : List DE → Str → DS0 → Mem → (Str → Mem → Prop) → Prop
  | [], acc, _, M, Q => Q acc M
  | w :: ws, acc, δ, M, Q => w δ M fun x M1 => ∃ y : Str, x = .str y ∧ (acc ++ y).length ≤ sizeLine ∧ dJs ws (acc ++ y) δ M1 Q
def dJoin (ws : List DE) : DE := fun δ M Q => dJs ws Str.empty δ M fun out M1 => Q (.str out) M1
theorem PJD.pj {B : Bs} {es : List Expr} {ws : List DE} (h : PJD X B es ws) : PJ X es (ws.map (lE B)) := by
  induction h with
  | nil => exact .nil
  | cons h r ih => exact .cons h ih
theorem js_of {P : Addr → Prop} {B : Bs} {σ : L2.St} {δ : DS0} {Q : Str → Hp → Prop} {Qd : Str → Mem → Prop} : ∀ (ws : List DE) (acc : Str) (H : Hp) (M : Mem), RepS ⟨B.K, B.CR, P⟩ H M δ σ → Good ⟨B.K, B.CR, P⟩ H M → XL ⟨B.K, B.CR, P⟩ H M B.E B.W → dJs ws acc δ M Qd → (∀ out H' M', Fz ⟨B.K, B.CR, P⟩ H M H' M' → Good ⟨B.K, B.CR, P⟩ H' M' → Qd out M' → Q out H') → tJs (ws.map (lE B)) acc σ H Q
  | [], acc, H, M, hS, g, x, h, k => k acc H M Fz.refl g h
  | w :: ws, acc, H, M, hS, g, x, h, k => by
    refine ⟨P, δ, M, _, hS, g, x, h, fun vx H1 ⟨d, M1, z1, g1, r1, y, ey, hl, q⟩ => ?_⟩
    subst ey
    exact ⟨y, r1, hl, js_of ws _ H1 M1 (hS.mono z1) g1 (x.trans z1) q fun out H' M' z g' q' => k out H' M' (z1.trans z) g' q'⟩
theorem d_join {v1 v2 : Expr} {rest : List Expr} {ws : List DE} (h : PJD X (bs X CR E W) (v1 :: v2 :: rest) ws) : PD X (bs X CR E W) (.JoinedStr (v1 :: v2 :: rest) pos) (dJoin ws) := by
  refine (pe_joined h.pj).imp fun σ H Q hh => ?_
  obtain ⟨P, δ, M, Qd, hS, g, x, w, k⟩ := hh
  exact js_of ws _ H M hS g x w fun out H' M' z g' q => k _ _ ⟨.str out, M', z, g', rfl, q⟩
/-! str of a fraction -/
def rStrR (sp : DSp) : DC := fun ds M Q => (∃ i : Int, ds = [.int i] ∧ i.natAbs.log2 < 1920 ∧ Q (.str (Str.ofString (toString i))) M) ∨ ∃ q, ds = [.rat q] ∧ sp [.rat q] M (fun d M' => (∃ y, d = .str y) ∧ Q d M') noX
theorem c_strR {k : Nat} {sp : DSp} (O : Op1 X.prog X.w X.K X.mg X.base CR "__str__" sp) (hr : Room k X.A) (hk : 40 ≤ k := by decide) : CallR X (.type "str") (lC X.K CR (rStrR sp)) := by
  intro pins s σ H xs us Q I rx ⟨P, ds, M, Qd, rs, g, h, kk⟩
  rcases h with ⟨i, rfl, hl, q⟩ | ⟨q, rfl, h⟩
  · exact c_str pins s σ H xs us Q I rx ⟨P, _, M, Qd, rs, g, ⟨i, rfl, hl, q⟩, kk⟩
  · obtain ⟨f, fd, F, hb, hs, hf⟩ := O.ex
    have rs2 := rs
    obtain ⟨x, r0, rfl, ra, r1⟩ := rs
    obtain rfl : r0 = [] := r1
    obtain ⟨a, dx, rfl, _, ha⟩ := ra
    cases rx with
    | cons ru rn =>
      cases rn
      rename_i u
      obtain rfl : u = Value.ref a := ru
      obtain ⟨mA, J, _⟩ := ins_get I.hok ha
      obtain ⟨od, J, _⟩ := J.look
      have hr2 : Room 38 X.A.in1.in1 := ((hr.mono hk).in1).in1
      refine PySem.W.kso_call hr2.units0 I.kIn J hs hf ?_
      refine wpAny_call (codeAny_mono (F.run X.A.in1.in1 X.stack s H ⟨[.ref a], []⟩ [.ref a] [.ref a] (fun v H' => ∃ y, v = .str y ∧ Q v H') E0 hr2 (I.env0.in1).in1 (by simpa using hb s [.ref a] I.kIn rfl) (.cons rfl .nil) (lSp_of (Qd := fun d M' => (∃ y, d = .str y) ∧ Qd d M') g rs2 h fun v H' ⟨d, M', z, g', r, ⟨y, ey⟩, q'⟩ => ?_)) fun r s' hq => ?_)
      · subst ey
        exact ⟨y, r, kk _ _ ⟨_, M', z, g', r, q'⟩⟩
      · cases r with
        | error e => exact passL pins σ H s e s' I hq
        | ok fl =>
          cases fl with
          | ret w =>
            obtain ⟨v, H2, I2, rv, y, ey, q2⟩ := I.after hq
            subst ey
            obtain ⟨t, rfl⟩ := rv
            exact ⟨.str y, H2, I2, ⟨_, rfl⟩, q2⟩
          | next => exact False.elim hq
          | brk => exact False.elim hq
          | cont => exact False.elim hq
end
/-! ### errors with a field -/
def oexB (K : PySem.W.Frag) (C : Addr) : Bool := match K.lookup C with
  | some ⟨.type "type", _, .cls cd, sl⟩ => (match cd.mro, sl.toList with
    | .ref C' :: bm, [_, _, _, _, some (.builtin n), _] => C' == C && n == "ValueError.__new__" && !cd.hasDel && cd.hasDict && PySem.HandSPX.refsVE bm
    | _, _ => false)
  | _ => false
theorem oexB_ok {K : PySem.W.Frag} {C : Addr} (q : oexB K C = true) : ∃ nm q N bs bm sn sub ab col dd k0 k1 k2 k3 k5, K.lookup C = some (excClassObj nm q C N bs bm true sn sub ab col dd k0 k1 k2 k3 k5 "ValueError.__new__") ∧ PySem.HandSPX.refsVE bm = true := by
  unfold oexB at q
  split at q
  · rename_i dd cd sl ho
    split at q
    · rename_i C' bm k0 k1 k2 k3 n k5 hm hs
      simp only [Bool.and_eq_true, beq_iff_eq, Bool.not_eq_true'] at q
      obtain ⟨⟨⟨⟨rfl, rfl⟩, hdel⟩, hd0⟩, ht⟩ := q
      obtain ⟨nm, bs, mro, ns, qn, hd, sn, sub, ab, col, del⟩ := cd
      dsimp only at hm hdel hd0
      subst hm hdel hd0
      have hsl : sl = #[k0, k1, k2, k3, some (.builtin "ValueError.__new__"), k5] := by
        obtain ⟨l⟩ := sl
        simp only at hs
        rw [hs]
      subst hsl
      exact ⟨nm, qn, ns, bs, bm, sn, sub, ab, col, dd, k0, k1, k2, k3, k5, ho, ht⟩
    · cases q
  · cases q
/-- what the text must hold of the error's class: one field f -/
structure ErrF (K : PySem.W.Frag) (mg : Str → Option Value) (x : Str) (C fI : Addr) (f : Str) : Prop where
  o : OexC K C
  g : mg x = some (.ref C)
  iC : PySem.W.findIn K (.ref C) "__init__" = some (some (.ref fI))
  tI : PySem.W.typeIn K (.ref fI) = some (.type "function")
  no : PySem.W.findIn K (.ref C) f = some none
  ga : PySem.W.findIn K (.ref C) "__getattribute__" = some (some (.builtin "BaseException.__getattribute__"))
  gg : PySem.W.findIn K (.ref C) "__getattr__" = some none
  hd : PySem.W.hasDictIn K C = true
  self : PySem.W.exmOne K (.ref C) (.ref C) = some true
def errB (K : PySem.W.Frag) (x f : Str) : Bool :=
  oexB K (He.ga K x) && (He.eqO (PySem.W.findIn K (.ref (He.ga K x)) "__setattr__") (some (some (.builtin "object.__setattr__"))) && (decide (PySem.W.subIn K (.ref (He.ga K x)) (.type "BaseException") = some true) && (decide (PySem.W.typeIn K (.ref (He.ga K x)) = some (.type "type")) && (PySem.W.keepIn K (.ref (He.ga K x)) &&
  (He.eqO (PySem.W.nsIn K mainGlobals x) (some (some (.ref (He.ga K x)))) && (He.eqO (PySem.W.findIn K (.ref (He.ga K x)) "__init__") (some (some (.ref (He.ma K (He.ga K x) "__init__")))) && (decide (PySem.W.typeIn K (.ref (He.ma K (He.ga K x) "__init__")) = some (.type "function")) &&
  (He.eqO (PySem.W.findIn K (.ref (He.ga K x)) f) (some none) && (He.eqO (PySem.W.findIn K (.ref (He.ga K x)) "__getattribute__") (some (some (.builtin "BaseException.__getattribute__"))) && (He.eqO (PySem.W.findIn K (.ref (He.ga K x)) "__getattr__") (some none) && (PySem.W.hasDictIn K (He.ga K x) &&
  decide (PySem.W.exmOne K (.ref (He.ga K x)) (.ref (He.ga K x)) = some true))))))))))))
theorem errB_ok {K : PySem.W.Frag} {h : Heap} {mg : Str → Option Value} {x f : Str} (X : K.In h) (G : h.Ns mainGlobals mg) (c : errB K x f = true) : ErrF K mg x (He.ga K x) (He.ma K (He.ga K x) "__init__") f := by
  obtain ⟨c1, c⟩ := He.ba c
  obtain ⟨c2, c⟩ := He.ba c
  obtain ⟨c3, c⟩ := He.ba c
  obtain ⟨c4, c⟩ := He.ba c
  obtain ⟨c5, c⟩ := He.ba c
  obtain ⟨c6, c⟩ := He.ba c
  obtain ⟨c7, c⟩ := He.ba c
  obtain ⟨c8, c⟩ := He.ba c
  obtain ⟨c9, c⟩ := He.ba c
  obtain ⟨c10, c⟩ := He.ba c
  obtain ⟨c11, c⟩ := He.ba c
  obtain ⟨c12, c13⟩ := He.ba c
  exact ⟨⟨oexB_ok c1, He.eqO_ok c2, of_decide_eq_true c3, of_decide_eq_true c4, c5⟩, PySem.W.mg_of X G (He.eqO_ok c6), He.eqO_ok c7, of_decide_eq_true c8, He.eqO_ok c9, He.eqO_ok c10, He.eqO_ok c11, c12, of_decide_eq_true c13⟩
/-- its __init__ -/
def spOe (C : Addr) (f : Str) : Sp := fun vs H Q _ => ∃ a v, vs = [.ref a, v] ∧ H a = some (exo a C none) ∧ ∀ dx, H dx = none → dx ≠ a → Q .non (upd (upd H dx (exd dx [(f, v)])) a (exo a C (some dx)))
/-- .. with its __init__ walked -/
structure ErrT (P : Program) (w : World) (K : PySem.W.Frag) (mg : Str → Option Value) (base : Heap) (x : Str) (C : Addr) (f : Str) : Prop where
  ex : ∃ fI fd p, ErrF K mg x C fI f ∧ FnOk P w K mg base (L2.CX P w) 2 fI fd ["self", p] (spOe C f) ∧ Binds K fd ["self", p] []
theorem ErrT.self {P w K mg base x C f} (T : ErrT P w K mg base x C f) : PySem.W.exmOne K (.ref C) (.ref C) = some true := let ⟨_, _, _, e, _⟩ := T.ex; e.self
theorem ErrT.g {P w K mg base x C f} (T : ErrT P w K mg base x C f) : mg x = some (.ref C) := let ⟨_, _, _, e, _⟩ := T.ex; e.g
section
variable {P : Program} {w : World} {K : PySem.W.Frag} {mg : Str → Option Value} {base : Heap} {CR C fI : Addr}
theorem okOe {x qual p fld : Str} {st : Stmt} {f : Addr} {fd : FuncData} {kws : List (Str × V)} (F : FunD K x qual (defArgs st) (defBody st) (defScope st) [] kws f fd) (S : FnScope ["self", p] ["self", p] (defScope st)) (T : OexC K C) (no : PySem.W.findIn K (.ref C) fld = some none)
    (der : ∀ (cdv : Value) (A : Around) (outer : List Env) (s : Shared) (H : Hp) (E : XK), PSs (cxOf (L2.CX P w) P w K mg base ["self", p] qual (defScope st) f cdv A outer s H E).nox (defBody st) (tOst K fld (tVar 0) (tVar 1))) : FnOk P w K mg base (L2.CX P w) 2 f fd ["self", p] (spOe C fld) := by
  refine F.ok (k := 1) S (fun vs H Q E h => ?_) (fun cdv A outer s H vs Q E hr h => ⟨tOst K fld (tVar 0) (tVar 1), (der cdv A outer s H E).nox, ?_⟩)
  · obtain ⟨a, v, rfl, _⟩ := h; rfl
  · obtain ⟨a, v, rfl, h0, hq⟩ := h
    exact ⟨_, rfl, _, rfl, a, C, rfl, T, no, .inl ⟨h0, fun dx hd hne => hq dx hd hne⟩⟩
theorem errT_of {x qual p fld : Str} {st : Stmt} {fd : FuncData} (e : ErrF K mg x C fI fld) (F : FunD K "__init__" qual (defArgs st) (defBody st) (defScope st) [] [] fI fd) (ok : FnOk P w K mg base (L2.CX P w) 2 fI fd ["self", p] (spOe C fld))
    (h : ∀ (kV doc pm : Value) (an : Option Addr) (cdv ct a b : Value), bindArgs (PySem.W.fnOf "__init__" qual (defArgs st) (defBody st) (defScope st) .none kV doc pm an cdv ct) ⟨[a, b], []⟩ = pure ((["self", p] : List Str).zip [a, b])) : ErrT P w K mg base x C fld :=
  ⟨fI, fd, p, e, ok, F.bindsN fun kV doc pm an cdv ct us hl => match us, hl with | [a, b], _ => h kV doc pm an cdv ct a b⟩
end
section
variable {X : Cx} {CR C : Addr} {E : DXS} {W : WX} {pos p p2 pos' : Pos} {x f : Str} {e : Expr} {w : DE}
def dRaiseF (C : Addr) (f : Str) (w : DE) (E : DXS) : DSt := fun _ δ M => w δ M fun y M1 => E C [f] [y] δ M1
theorem s_raiseF {k : Nat} (T : ErrT X.prog X.w X.K X.mg X.base x C f) (tk : Takes X W) (hr : Room k X.A) (he : PD X (bs X CR E W) e w) (hc : X.calm = true := by rfl) (hg : Gl X x := by rfl) (hk : 3 ≤ k := by decide)
    (hdb : (x == ("__debug__" : Str)) = false := by decide) (hs : starEach (e :: []) X.env = (false, eval e X.env) :: starEach [] X.env := by rfl) (hpl : (backTo pos (starEach [] X.env)).any (·.1) = false := by rfl) :
    PDS X (bs X CR E W) (.Raise (some (.Call (.Name x p) [e] [] pos)) none pos') (dRaiseF C f w E) := by
  obtain ⟨fI, fd, pn, t, F, hb⟩ := T.ex
  refine (ps_raise hc tk (pmk_oex t.o t.iC t.tI F (hr.mono hk) hb .nil passL hg t.g (pa_cons he pa_nil hs) hdb hs hpl)).imp fun Dn σ H h => ?_
  obtain ⟨P, δ, M, Dd, hS, g, xl, w, k⟩ := h
  refine ⟨P, δ, M, _, hS, g, xl, w, fun v H1 ⟨y, M1, z1, g1, r1, q⟩ => ⟨(by show 1 ≤ 1000; decide), fun a ha => ⟨a, v, rfl, upd_same, fun dx hd hne => ⟨rfl, dx, [(f, v)], upd_same, ?_, ?_, ?_⟩⟩⟩⟩
  · rw [upd_ne hne]; exact upd_same
  · have := hd; rw [upd_ne hne] at this; exact this
  · have hd1 : H1 dx = none := by have := hd; rw [upd_ne hne] at this; exact this
    have eH : upd (L2.del (upd (upd (upd H1 a (exo a C none)) dx (exd dx [(f, v)])) a (exo a C (some dx))) a) dx (.xd [(f, v)]) = upd H1 dx (.xd [(f, v)]) := by
      funext b
      by_cases h1 : b = dx
      · rw [h1, upd_same, upd_same]
      · rw [upd_ne h1, upd_ne h1]
        by_cases h2 : b = a
        · rw [h2, L2.del_same]; exact ha.symm
        · rw [L2.del_ne h2, upd_ne h2, upd_ne h1, upd_ne h2]
    rw [eH]
    have z2 : Fz ⟨X.K, CR, P⟩ H1 M1 (upd H1 dx (.xd [(f, v)])) M1 := fz_new g1 hd1
    have fr := g1.none hd1
    refine xl (.ref C) (some dx) σ _ ⟨C, [f], [y], δ, M1, rfl, z1.trans z2, good_new g1 hd1, (hS.mono z1).mono z2, ?_, q⟩
    exact .inr ⟨by simp, dx, [v], rfl, fr, upd_same, rfl, Reps.one (r1.mono z2)⟩
/-- data that tells itself, whatever the memory -/
def flatD : D → Bool
  | .non => true | .bl _ => true | .int _ => true | .str _ => true | _ => false
def flatV1 : D → V
  | .bl b => .bl b | .int i => .int i | .str x => .str x | _ => .non
theorem flat_rep {O : Own} {H M} {d : D} {v : V} (h : flatD d = true) (r : Rep O H M d v) : v = flatV1 d := by
  cases d <;> first | exact r | cases h
theorem rep_flat {O : Own} {H M} {d : D} (h : flatD d = true) : Rep O H M d (flatV1 d) := by
  cases d <;> first | exact rfl | cases h
/-- the error that is caught: its dict stands -/
def Held (d : Option Addr) (f : Str) (y : D) (H : Hp) : Prop := ∃ dd, d = some dd ∧ H dd = some (.xd [(f, flatV1 y)])
/-- try: .. except Z as n: .., errors with one flat field each -/
def dTryF (C : Addr) (f : Str) (i : Nat) (wb : DXS → DSt) (ws : Addr → D → DSt) : DSt := fun Dn δ M => wb (fun C' ns fs δ' M' => C' = C ∧ ∃ y, ns = [f] ∧ fs = [y] ∧ flatD y = true ∧ ∀ a, ws a y { nx := fun δ2 M2 => Dn.nx (δ2.set i none) M2, rt := Dn.rt, bk := fun δ2 M2 => Dn.bk (δ2.set i none) M2, ct := fun δ2 M2 => Dn.ct (δ2.set i none) M2 } (δ'.set i (some (.ref a))) M') Dn δ M
theorem errD_one {O : Own} {H M} {d : Option Addr} {f : Str} {y : D} (h : ErrD O H M d [f] [y]) (hf : flatD y = true) : Held d f y H ∧ ∃ dd, d = some dd ∧ Fre O M dd := by
  rcases h with ⟨h, _⟩ | ⟨_, dd, vs, e, fr, eh, hl, r⟩
  · cases h
  · obtain ⟨v, r0, rfl, r1, r2⟩ := r
    rw [show r0 = [] from r2, flat_rep hf r1] at eh
    exact ⟨⟨dd, e, eh⟩, dd, e, fr⟩
abbrev tru : DXS := fun _ _ _ _ _ => True
theorem s_tryF {n : Str} {i : Nat} {body suite : List Stmt} {b0 : Stmt} {np : Pos} {wb : DXS → DSt} {ws : Addr → D → DSt} (T : ErrT X.prog X.w X.K X.mg X.base x C f) (hc : Names X x (.ref C)) (tk : Takes X W) (hN : X.N.Nodup)
    (hb : ∀ (E' : DXS) (W' : WX) (pn : List (Addr × Obj)) (xe : Value → Shared → Prop), Takes (X.tr pn xe) W' → PassesOwn (model X.prog X.w) X.A X.env xe → PDSs (X.tr pn xe) (bs X CR E' W') body (wb E'))
    (hsu : ∀ (a : Addr) (oe : Obj) (d : Option Addr) (y : D) (W' : WX) (pn : List (Addr × Obj)), Zc (.ref C) d oe → (∃ vs, oe.data = .fields vs) → flatD y = true → (∀ c d' σ' H', W' c d' σ' H' → Held d f y H') → PDSs (X.suite a ((a, oe) :: pn)) (bs X CR tru W') (b0 :: suite) (ws a y))
    (hi : X.N[i]? = some n := by rfl) (hln : X.env.kindOf n = some .local := by rfl) (hs : X.stack = X.env :: X.outer := by rfl) (hf : X.env.frame = some X.env.locals := by rfl) :
    PDS X (bs X CR E W) (.Try body [.ExceptHandler (some (.Name x np)) (some n) (b0 :: suite) pos'] [] [] pos) (dTryF C f i wb ws) := by
  refine (ps_try_as (tb := fun W' Dn σ H => ∃ E', lS (bs X CR E' W') (wb E') Dn σ H) (ts := fun a cls d Dn σ H => ∃ (y : D) (W' : WX), cls = .ref C ∧ flatD y = true ∧ (∀ c d' σ' H', W' c d' σ' H' → Held d f y H') ∧ lS (bs X CR tru W') (ws a y) Dn σ H) (Wout := W) hs hf hN hi hln hc tk
    (fun W' pn xe tk' po => ⟨fun p s σ H Dn I ⟨E', q⟩ => (hb E' W' pn xe tk' po).run p s σ H Dn I q⟩) (fun a oe cls d pn hz hv => ⟨fun p s σ H Dn I ⟨y, W', h1, h2, h3, q⟩ => by
      subst h1
      exact (hsu a oe d y W' pn hz hv h2 h3).run p s σ H Dn I q⟩)).imp fun Dn σ H h => ?_
  obtain ⟨P, δ, M, Dd, hS, g, xl, w, k⟩ := h
  refine ⟨_, P, δ, M, Dd, hS, g, ?_, w, k⟩
  rintro c d σ' H' ⟨C', ns, fs, δ', M', rfl, z, g', hS', er, rfl, y, rfl, rfl, hy, hw⟩
  obtain ⟨hd, dd, ed, fr⟩ := errD_one er hy
  have kt := k.trans z
  refine ⟨true, T.self, fun _ a ha => ⟨y, LfXS ⟨X.K, CR, P⟩ H' M' tru, rfl, hy, fun c d' σ2 H2 ⟨_, _, _, _, M2, _, z2, _⟩ => ?_, P, _, M', _, hS'.set (d := .ref a) (v := .ref a) rfl, g', fun c d' σ2 H2 h => h, hw a, ?_⟩, fun e => by cases e⟩
  · obtain ⟨dd', ed', eh⟩ := hd
    exact ⟨dd', ed', (z2.st dd' _ (by rw [ed] at ed'; cases ed'; exact fr) eh).1⟩
  · exact ⟨fun σ H' ⟨δ2, M2, z2, g2, hS2, q⟩ => kt.nx _ H' ⟨_, M2, z2, g2, hS2.unset, q⟩, kt.rt, fun σ H' ⟨δ2, M2, z2, g2, hS2, q⟩ => kt.bk _ H' ⟨_, M2, z2, g2, hS2.unset, q⟩, fun σ H' ⟨δ2, M2, z2, g2, hS2, q⟩ => kt.ct _ H' ⟨_, M2, z2, g2, hS2.unset, q⟩⟩
/-- what stands in the suite -/
theorem held_at (C : Addr) {P : Addr → Prop} {H : Hp} {M : Mem} {W' : WX} {d : Option Addr} {y : D} {σ : L2.St} {δ : DS0} (xl : XL ⟨X.K, CR, P⟩ H M tru W') (g : Good ⟨X.K, CR, P⟩ H M) (hS : RepS ⟨X.K, CR, P⟩ H M δ σ) (hW : ∀ c d' σ' H', W' c d' σ' H' → Held d f y H') : Held d f y H :=
  hW (.ref C) none σ H (xl (.ref C) none σ H ⟨C, [], [], δ, M, rfl, Fz.refl, g, hS, .inl ⟨rfl, rfl, rfl⟩, trivial⟩)
/-- e.f of the caught error -/
def dErrF (y : D) (w : DE) (a : Addr) : DE := fun δ M Q => w δ M fun d M1 => d = .ref a ∧ Q y M1
theorem d_errF {a : Addr} {oe : Obj} {d : Option Addr} {pn : List (Addr × Obj)} {W' : WX} {y : D} (T : ErrT X.prog X.w X.K X.mg X.base x C f) (hz : Zc (.ref C) d oe) (hv : ∃ vs, oe.data = .fields vs) (hy : flatD y = true) (hW : ∀ c d' σ' H', W' c d' σ' H' → Held d f y H')
    (he : PD (X.suite a ((a, oe) :: pn)) (bs X CR tru W') e w) (hb : attributeBase e f X.env (eval e X.env) = eval e X.env := by rfl) : PD (X.suite a ((a, oe) :: pn)) (bs X CR tru W') (.Attribute e f pos) (dErrF y w a) := by
  obtain ⟨fI, fd, p, t, _⟩ := T.ex
  refine ⟨fun pins s σ H Q I h => ?_⟩
  obtain ⟨P, δ, M, Qd, hS, g, xl, w, k⟩ := h
  refine attr_of hb (thn (he.run pins s σ H (fun v H' => ∃ M', v = .ref a ∧ Fz ⟨X.K, CR, P⟩ H M H' M' ∧ Good ⟨X.K, CR, P⟩ H' M' ∧ Qd y M') I ⟨P, δ, M, _, hS, g, xl, w, fun v H1 ⟨d1, M1, z1, g1, r1, ed, q⟩ => by subst ed; exact ⟨M1, r1, z1, g1, q⟩⟩) fun u s1 hh => ?_)
  obtain ⟨v, H1, I1, rv, M1, ev, z1, g1, q⟩ := hh
  subst ev
  obtain rfl : u = Value.ref a := rv
  obtain ⟨dd, ed, eh⟩ := held_at C (X := X) (f := f) (d := d) (y := y) (xl.trans z1) g1 (hS.mono z1) hW
  subst ed
  obtain ⟨ha, _⟩ := I1.pin (a, oe) (List.mem_append_left _ List.mem_cons_self)
  obtain ⟨vs, hd⟩ := hv
  have hx : ObjOk X.prog X.w H1 s1.heap dd (.xd [(f, flatV1 y)]) := I1.hok dd _ eh
  obtain ⟨mA, hns, hr⟩ := hx
  obtain ⟨od, ho, hl⟩ := lookIn_ns hns
  have l : List.lookup f [(f, flatV1 y)] = some (flatV1 y) := by simp [List.lookup]
  obtain ⟨u, hu, ru⟩ := RelO.some_of (v := flatV1 y) (o := mA f) (by rw [← l]; exact hr f)
  have J : PySem.W.InstAt s1.heap a oe C (some od) := ⟨ha, hz.1, by unfold PySem.W.notCls; rw [hd] <;> rfl, by rw [hz.2]; exact ho⟩
  exact HandSPX.exc_get I1.kIn J t.ga t.gg t.o.exC (PySem.W.findObj_own t.hd t.no rfl (by rw [hl, hu])) (handed_of ru) ⟨flatV1 y, H1, I1.tok _, ru, k _ _ ⟨y, M1, z1, g1, rep_flat hy, q⟩⟩
/-- isinstance(e, c) of it -/
structure ErrI (K : PySem.W.Frag) (mg : Str → Option Value) (x : Str) (C S : Addr) : Prop where
  ic : (PySem.W.clsIn K C).isSome = true
  ha : PySem.W.findIn K (.ref C) "__class__" = some (some (.builtin "object.__class__"))
  hn : PySem.W.specialIn K (.builtin "object.__class__") "__get__" = some (some (.builtin "getset_descriptor.__get__"))
  ht : PySem.W.takesIn K (.builtin "object.__class__") = some true
  hm : PySem.W.mroIn K C (.type "object") = some true
  g : mg x = some (.ref S)
  s : PySem.W.kitOne K (.ref C) (.ref S) = some true
def errIB (K : PySem.W.Frag) (c x : Str) : Bool :=
  (PySem.W.clsIn K (He.ga K c)).isSome && (He.eqO (PySem.W.findIn K (.ref (He.ga K c)) "__class__") (some (some (.builtin "object.__class__"))) && (He.eqO (PySem.W.specialIn K (.builtin "object.__class__") "__get__") (some (some (.builtin "getset_descriptor.__get__"))) && (decide (PySem.W.takesIn K (.builtin "object.__class__") = some true) &&
  (decide (PySem.W.mroIn K (He.ga K c) (.type "object") = some true) && (He.eqO (PySem.W.nsIn K mainGlobals x) (some (some (.ref (He.ga K x)))) && decide (PySem.W.kitOne K (.ref (He.ga K c)) (.ref (He.ga K x)) = some true))))))
theorem errIB_ok {K : PySem.W.Frag} {h : Heap} {mg : Str → Option Value} {c x : Str} (X : K.In h) (G : h.Ns mainGlobals mg) (q : errIB K c x = true) : ErrI K mg x (He.ga K c) (He.ga K x) := by
  obtain ⟨c1, q⟩ := He.ba q
  obtain ⟨c2, q⟩ := He.ba q
  obtain ⟨c3, q⟩ := He.ba q
  obtain ⟨c4, q⟩ := He.ba q
  obtain ⟨c5, q⟩ := He.ba q
  obtain ⟨c6, c7⟩ := He.ba q
  exact ⟨c1, He.eqO_ok c2, He.eqO_ok c3, of_decide_eq_true c4, of_decide_eq_true c5, PySem.W.mg_of X G (He.eqO_ok c6), of_decide_eq_true c7⟩
def rIsF (X : Cx) (CR S a : Addr) (W' : WX) : List V → Hp → VK → Prop := fun xs H Q => ∃ M P δ σ, xs = [.ref a, .ref S] ∧ XL ⟨X.K, CR, P⟩ H M tru W' ∧ Good ⟨X.K, CR, P⟩ H M ∧ RepS ⟨X.K, CR, P⟩ H M δ σ ∧ Q (.bl true) H
theorem call_isF {S a : Addr} {oe : Obj} {d : Option Addr} {pn : List (Addr × Obj)} {W' : WX} {y : D} {z : Str} (T : ErrT X.prog X.w X.K X.mg X.base x C f) (SI : ErrI X.K X.mg z C S) (hz : Zc (.ref C) d oe) (hv : ∃ vs, oe.data = .fields vs) (hW : ∀ c d' σ' H', W' c d' σ' H' → Held d f y H') :
    CallR (X.suite a ((a, oe) :: pn)) (.builtin "isinstance") (rIsF X CR S a W') := by
  obtain ⟨fI, fd, pI, t, _⟩ := T.ex
  intro pins s σ H xs us Q I r h
  obtain ⟨M, P, δ, σ0, rfl, xl, g, hS, q⟩ := h
  obtain ⟨dd, ed, eh⟩ := held_at C (X := X) (f := f) (d := d) (y := y) xl g hS hW
  subst ed
  cases r with
  | cons rx rr =>
    cases rr with
    | cons rt rr =>
      cases rr
      cases rx
      cases rt
      obtain ⟨hget, _⟩ := I.pin (a, oe) (List.mem_append.mpr (.inl List.mem_cons_self))
      obtain ⟨vs, hd⟩ := hv
      have hx : ObjOk X.prog X.w H s.heap dd (.xd [(f, flatV1 y)]) := I.hok dd _ eh
      obtain ⟨mA, hns, hr⟩ := hx
      obtain ⟨od, ho, hl⟩ := lookIn_ns hns
      have J : PySem.W.InstAt s.heap a oe C (some od) := ⟨hget, hz.1, by unfold PySem.W.notCls; rw [hd] <;> rfl, by rw [hz.2]; exact ho⟩
      exact PySem.W.kia_one (PySem.W.kitx_exc SI.ic t.ga t.gg t.o.exC SI.ha SI.hn SI.ht SI.hm) I.kIn J SI.s (fun z => nomatch z) fun tk => ⟨.bl true, H, I.kept (t' := tk) fun _ _ z => z, rfl, q⟩
theorem d_isF {S a : Addr} {oe : Obj} {d : Option Addr} {pn : List (Addr × Obj)} {W' : WX} {y : D} {z : Str} (T : ErrT X.prog X.w X.K X.mg X.base x C f) (SI : ErrI X.K X.mg z C S) (hz : Zc (.ref C) d oe) (hv : ∃ vs, oe.data = .fields vs) (hW : ∀ c d' σ' H', W' c d' σ' H' → Held d f y H') (hm : X.mg "isinstance" = none)
    (he : PD (X.suite a ((a, oe) :: pn)) (bs X CR tru W') e w) (hg : Gl X "isinstance" := by rfl) (hgz : Gl X z := by rfl) (hdb : (z == ("__debug__" : Str)) = false := by decide)
    (hs : starEach [e, .Name z p2] X.env = (false, eval e X.env) :: starEach [.Name z p2] X.env := by rfl) (hs2 : starEach [.Name z p2] X.env = (false, eval (.Name z p2) X.env) :: starEach [] X.env := by rfl) (hpl : (backTo pos (starEach [.Name z p2] X.env)).any (·.1) = false := by rfl) :
    PD (X.suite a ((a, oe) :: pn)) (bs X CR tru W') (.Call (.Name "isinstance" p) [e, .Name z p2] [] pos) (dIsE w a true) := by
  refine (pe_callB (call_isF (CR := CR) (f := f) T SI hz hv hW) hg hm (by decide +kernel) (pa_cons he (pa_cons (pe_glob (v := .ref S) hgz SI.g rfl hdb) pa_nil hs2) hs) (he := hs) (hpl := hpl)).imp fun σ H Q h => ?_
  obtain ⟨P, δ, M, Qd, hS, g, x, w, k⟩ := h
  refine ⟨P, δ, M, _, hS, g, x, w, fun v H1 ⟨d1, M1, z1, g1, r1, ed, q⟩ => ?_⟩
  subst ed
  rw [show v = .ref a from r1]
  exact ⟨M1, P, δ, σ, rfl, x.trans z1, g1, hS.mono z1, k _ _ ⟨.bl true, M1, z1, g1, rfl, q⟩⟩
end
/-! ### a staticmethod of a class -/
structure StatM (P : Program) (w : World) (K : PySem.W.Frag) (mg : Str → Option Value) (base : Heap) (CR : Addr) (k : Nat) (x : Str) (C : Addr) (m : Str) (ps : List Str) (sp : DSp) : Prop where
  g : mg x = some (.ref C)
  rd : PySem.W.readsIn K C (.type "type") = true
  ga : PySem.W.specialIn K (.ref C) "__getattribute__" = some (some (.builtin "type.__getattribute__"))
  ex : ∃ p f fd rest, PySem.W.findCls K (.ref C) (.type "type") m = some (.get (.builtin "staticmethod.__get__") (.ref p) .none (.ref C)) ∧ PySem.W.recIn K p "staticmethod" = some (.ref f :: rest) ∧ PySem.W.keepIn K (.ref f) = true ∧
    FnOk P w K mg base (L2.CX P w) k f fd ps (lSp K CR sp) ∧ Binds K fd ps []
section
variable {X : Cx} {CR C : Addr} {E : DXS} {W : WX} {pos p p1 apos : Pos} {x m : Str} {e : Expr} {es : List Expr} {t : DA} {k : Nat} {ps : List Str} {sp : DSp}
theorem d_static {j : Nat} {pl : Sem Bool} (S : StatM X.prog X.w X.K X.mg X.base CR k x C m ps sp) (tk : Takes X W) (hr : Room j X.A) (ha : PDA X (bs X CR E W) (e :: es) t) (hk : k ≤ j := by decide) (hg : Gl X x := by rfl) (hdb : (x == ("__debug__" : Str)) = false := by decide)
    (hst : starEach (e :: es) X.env = (false, eval e X.env) :: starEach es X.env := by rfl) (hpl : (backTo pos (starEach es X.env)).any (·.1) = false := by rfl)
    (ht : eval (.Call (.Attribute (.Name x p1) m apos) (e :: es) [] pos) X.env = (do
      let ov ← eval (.Name x p1) X.env
      standAt apos.atName
      let (f, first) ← holding [ov] (getMethod ov m pl)
      callWith pos f first (backTo pos (starEach (e :: es) X.env)) (backToKw pos (keywordEach [] X.env))) := by rfl) : PD X (bs X CR E W) (.Call (.Attribute (.Name x p1) m apos) (e :: es) [] pos) (dCallX sp E t) := by
  obtain ⟨q, f, fd, rest, hf, hp, hkp, F, hb⟩ := S.ex
  refine ⟨fun pins s σ H Q I h => ?_⟩
  obtain ⟨P, δ, M, Qd, hS, g, xl, w, kk⟩ := h
  refine PySem.W.methodCall_KW (pl := pl) (ld_glob I hg S.g ?_ hdb) ht
  refine PySem.W.method_cls I.kIn S.ga (PySem.W.cls_bind I.kIn S.rd hf (wpAny_call (PySem.W.sm_get (s := { s with toks := s.toks + 1 }) I.kIn hp (PySem.W.handed_on rfl ?_))))
  have I1 := I.tok (s.toks + 1)
  refine PySem.W.callWith_K (first := []) (h₀ := X.base) I1.ok.mod.kin hkp (thn (ha.run pos pins _ σ H (fun vs H2 => ∃ ds M2, Fz ⟨X.K, CR, P⟩ H M H2 M2 ∧ Good ⟨X.K, CR, P⟩ H2 M2 ∧ Reps ⟨X.K, CR, P⟩ H2 M2 ds vs ∧ sp ds M2 Qd fun C ns fs M' => E C ns fs δ M') I1 ⟨P, δ, M, _, hS, g, xl, w, fun vs H2 ds M2 z2 g2 rs q2 => ⟨ds, M2, z2, g2, rs, q2⟩⟩) fun us s2 ⟨vs, H2, I2, r, ds, M2, z2, g2, rs, q2⟩ => ⟨I2.kIn, ?_⟩) hst hpl
  refine run_fnS (E := fun σ c d H' => W c d σ H') (us := us) (vs := vs) F (hr.mono hk) hb (passAt tk σ) I2 r ?_
  exact ⟨P, ds, M2, Qd, _, rs, g2, q2, fun v H' l => kk v H' (l.trans z2), lfx_w (hS.mono z2) (xl.trans z2)⟩
end
def statB (K : PySem.W.Frag) (x m : Str) : Bool := PySem.W.readsIn K (He.ga K x) (.type "type") && (He5.wrapB K (He.ga K x) "staticmethod" "staticmethod.__get__" m && PySem.W.keepIn K (.ref (He5.wf K (He.ga K x) "staticmethod" m)))
theorem statM_of {P : Program} {w : World} {K : PySem.W.Frag} {mg : Str → Option Value} {base : Heap} {CR : Addr} {k : Nat} {x m qual nm : Str} {ps : List Str} {sp : DSp} {st : Stmt} {fd : FuncData} (c : statB K x m = true) (g : mg x = some (.ref (He.ga K x)))
    (F : FunD K nm qual (defArgs st) (defBody st) (defScope st) [] [] (He5.wf K (He.ga K x) "staticmethod" m) fd) (ok : FnOk P w K mg base (L2.CX P w) k (He5.wf K (He.ga K x) "staticmethod" m) fd ps (lSp K CR sp))
    (h : ∀ (kV doc pm : Value) (an : Option Addr) (cdv ct : Value) (us : List Value), us.length = ps.length → bindArgs (PySem.W.fnOf nm qual (defArgs st) (defBody st) (defScope st) .none kV doc pm an cdv ct) ⟨us, []⟩ = pure (ps.zip us)) : StatM P w K mg base CR k x (He.ga K x) m ps sp := by
  obtain ⟨c1, c⟩ := He.ba c
  obtain ⟨c2, c3⟩ := He.ba c
  obtain ⟨h1, rest, h2⟩ := He5.wrapB_ok c2
  refine ⟨g, c1, ?_, _, _, fd, rest, h1, h2, c3, ok, F.bindsN h⟩
  unfold PySem.W.readsIn at c1
  obtain ⟨h, _⟩ := He.ba c1
  obtain ⟨h, _⟩ := He.ba h
  obtain ⟨h, h3⟩ := He.ba h
  obtain ⟨_, h2⟩ := He.ba h
  unfold PySem.W.specialIn
  rw [beq_iff_eq.mp h2, Option.bind_some]
  exact beq_iff_eq.mp h3
/-! ### the hook with defs at any place -/
def obsE (ck : PySem.W.Frag → Bool) (fa : List He.Fa) (fn : List He.DefD) (fs : List He5.DefA) (K : PySem.W.Frag) : He.AlD := (ck K && ((He.obsD fa fn K).1 && fs.all fun d => d.ok K), (He.obsD fa fn K).2 ++ fs.map fun d => He5.fnA K (d.at_ K))
def valE (fn : List He.DefD) (fs : List He5.DefA) : He.AlD := (true, (He.valD fn).2 ++ fs.map He5.DefA.val)
def obsEG (n : Nat) (ck : PySem.W.Frag → Bool) (fa : List He.Fa) (fn : List He.DefD) (fs : List He5.DefA) (g : Addr → Option Obj) : He.AlD := obsE ck fa fn fs (He.frG g (He.asD g n ++ [cStatics, sysModules]))
def SaysE (ck : PySem.W.Frag → Bool) (fa : List He.Fa) (fn : List He.DefD) (fs : List He5.DefA) (K : PySem.W.Frag) : Prop := (ck K = true ∧ He.SaysD fa fn K) ∧ He5.SaysA [] fs K
theorem obsE_ok {ck : PySem.W.Frag → Bool} {fa : List He.Fa} {fn : List He.DefD} {fs : List He5.DefA} {K : PySem.W.Frag} (e : obsE ck fa fn fs K = valE fn fs) : SaysE ck fa fn fs K := by
  have e1 : (ck K && ((He.obsD fa fn K).1 && fs.all fun d => d.ok K)) = true := congrArg (fun z : He.AlD => z.1) e
  have e2 : (He.obsD fa fn K).2 ++ fs.map (fun d => He5.fnA K (d.at_ K)) = (He.valD fn).2 ++ fs.map He5.DefA.val := congrArg (fun z : He.AlD => z.2) e
  obtain ⟨a, b⟩ := He.ba e1
  obtain ⟨b1, b2⟩ := He.ba b
  have hl : (fs.map fun d => He5.fnA K (d.at_ K)).length = (fs.map He5.DefA.val).length := by rw [List.length_map, List.length_map]
  obtain ⟨p1, p2⟩ := List.append_inj' e2 hl
  refine ⟨⟨a, Prod.ext b1 p1⟩, ?_⟩
  show He5.obsA [] fs K = He5.valA fs
  have hh : (He5.obsA [] fs K).1 = true := by
    show (true && fs.all fun d => d.ok K) = true
    rw [b2]; rfl
  exact Prod.ext hh p2
def hookE (n : Nat) (ck : PySem.W.Frag → Bool) (fa : List He.Fa) (fn : List He.DefD) (fs : List He5.DefA) : PySem.W.Hook where
  α := He.AlD
  obs s := obsEG n ck fa fn fs s.heap.get?
  val _ := valE fn fs
  says _ h := ∃ K : PySem.W.Frag, K.In h ∧ SaysE ck fa fn fs K
  of _ _ e := ⟨_, He.frG_in, obsE_ok e⟩
  keeps _ _ _ := fun ⟨K, hK, c⟩ k => ⟨K, PySem.W.Frag.In.keeps hK k, c⟩
theorem obsEG_eq {n : Nat} {ck : PySem.W.Frag → Bool} {fa : List He.Fa} {fn : List He.DefD} {fs : List He5.DefA} {g : Addr → Option Obj} {s : Shared} (h : ∀ a, g a = s.heap.get? a) : obsEG n ck fa fn fs g = (hookE n ck fa fn fs).obs s := by
  have : g = s.heap.get? := funext h
  subst this; rfl
/-! ### the errors of a text, each against each -/
def apB (K : PySem.W.Frag) (l : List Str) : Bool := l.all fun a => l.all fun b => decide (PySem.W.exmOne K (.ref (He.ga K a)) (.ref (He.ga K b)) = some (decide (a = b)))
def errNames : List Str := ["DuplicateName", "BadReading", "UnknownPoint", "UnknownReading", "LimitReached"]
/-! ### the row -/
def top (i : Nat) : Stmt := PySem.Challenge.pw_plumbnet_k11_rows_and_twins_of_books.main.body.getD i (.Pass ⟨0, 0, 0, 0⟩)
abbrev s_Ratio___init__ : Stmt := inCls (top 15) 0
abbrev s_Ratio___add__ : Stmt := inCls (top 15) 1
abbrev s_Ratio___sub__ : Stmt := inCls (top 15) 2
abbrev s_Ratio___mul__ : Stmt := inCls (top 15) 3
abbrev s_Ratio___neg__ : Stmt := inCls (top 15) 4
abbrev s_Ratio___eq__ : Stmt := inCls (top 15) 6
abbrev s_Ratio___lt__ : Stmt := inCls (top 15) 7
abbrev s_Ratio___le__ : Stmt := inCls (top 15) 8
abbrev s_Ratio___gt__ : Stmt := inCls (top 15) 9
abbrev s_Ratio___ge__ : Stmt := inCls (top 15) 10
abbrev s_Ratio___abs__ : Stmt := inCls (top 15) 5
abbrev s_DuplicateName___init__ : Stmt := inCls (top 8) 0
abbrev s_BadReading___init__ : Stmt := inCls (top 9) 0
abbrev s_UnknownPoint___init__ : Stmt := inCls (top 6) 0
abbrev s_UnknownReading___init__ : Stmt := inCls (top 7) 0
abbrev s_LimitReached___init__ : Stmt := inCls (top 10) 0
abbrev s_Book_add_point_7c4f : Stmt := inCls (top 22) 3
abbrev s_Book___init__ : Stmt := inCls (top 22) 0
abbrev s_Book_twin_083b : Stmt := inCls (top 22) 11
abbrev s_law_is : Stmt := top 32
abbrev s_law_reading_is : Stmt := top 44
abbrev s_law_agrees : Stmt := top 45
abbrev s_law_draw_e832 : Stmt := top 26
abbrev s_law_take_65a1 : Stmt := top 27
abbrev s_Reading___init__ : Stmt := inCls (top 20) 0
abbrev s_Book_require_point : Stmt := inCls (top 22) 2
abbrev s_terms_fit : Stmt := top 21
abbrev s_Book_add_reading_3063 : Stmt := inCls (top 22) 4
abbrev s_Book_change_approximation_15c5 : Stmt := inCls (top 22) 5
abbrev s_Book_place_of : Stmt := inCls (top 22) 1
abbrev s_Book_change_value_4165 : Stmt := inCls (top 22) 6
abbrev s_Book_change_weight_d0e6 : Stmt := inCls (top 22) 7
abbrev s_Book_withdraw_8f01 : Stmt := inCls (top 22) 8
abbrev s_Book_remove_point_5cca : Stmt := inCls (top 22) 9
abbrev s_law_made_9a1d : Stmt := top 31
abbrev s_law_call : Stmt := top 42
abbrev s_law_told_97da : Stmt := top 43
abbrev s_law_point_due : Stmt := top 40
abbrev s_law_terms_fit : Stmt := top 38
abbrev s_law_reading_due : Stmt := top 39
abbrev s_law_due_9bdd : Stmt := top 41
abbrev s_law_spoilt : Stmt := top 36
abbrev s_law_menu : Stmt := top 33
abbrev s_law_terms_5923 : Stmt := top 35
abbrev s_law_common : Stmt := top 28
abbrev s_law_pair_e2e7 : Stmt := top 29
abbrev s_law_weight_f3c6 : Stmt := top 34
abbrev s_law_number_d14e : Stmt := top 30
abbrev s_law_deed : Stmt := top 37
abbrev s_law_row_is : Stmt := top 46
abbrev s_row_of : Stmt := top 23
abbrev s_law_tape : Stmt := top 25
abbrev s_law_7d45 : Stmt := top 47
def d_Ratio___init__ : He.DefD := ⟨("Ratio", some "__init__"), "__init__", "Ratio.__init__", defArgs s_Ratio___init__, defBody s_Ratio___init__, defScope s_Ratio___init__, [.int 1], []⟩
def d_Ratio___add__ : He.DefD := ⟨("Ratio", some "__add__"), "__add__", "Ratio.__add__", defArgs s_Ratio___add__, defBody s_Ratio___add__, defScope s_Ratio___add__, [], []⟩
def d_Ratio___sub__ : He.DefD := ⟨("Ratio", some "__sub__"), "__sub__", "Ratio.__sub__", defArgs s_Ratio___sub__, defBody s_Ratio___sub__, defScope s_Ratio___sub__, [], []⟩
def d_Ratio___mul__ : He.DefD := ⟨("Ratio", some "__mul__"), "__mul__", "Ratio.__mul__", defArgs s_Ratio___mul__, defBody s_Ratio___mul__, defScope s_Ratio___mul__, [], []⟩
def d_Ratio___neg__ : He.DefD := ⟨("Ratio", some "__neg__"), "__neg__", "Ratio.__neg__", defArgs s_Ratio___neg__, defBody s_Ratio___neg__, defScope s_Ratio___neg__, [], []⟩
def d_Ratio___eq__ : He.DefD := ⟨("Ratio", some "__eq__"), "__eq__", "Ratio.__eq__", defArgs s_Ratio___eq__, defBody s_Ratio___eq__, defScope s_Ratio___eq__, [], []⟩
def d_Ratio___lt__ : He.DefD := ⟨("Ratio", some "__lt__"), "__lt__", "Ratio.__lt__", defArgs s_Ratio___lt__, defBody s_Ratio___lt__, defScope s_Ratio___lt__, [], []⟩
def d_Ratio___le__ : He.DefD := ⟨("Ratio", some "__le__"), "__le__", "Ratio.__le__", defArgs s_Ratio___le__, defBody s_Ratio___le__, defScope s_Ratio___le__, [], []⟩
def d_Ratio___gt__ : He.DefD := ⟨("Ratio", some "__gt__"), "__gt__", "Ratio.__gt__", defArgs s_Ratio___gt__, defBody s_Ratio___gt__, defScope s_Ratio___gt__, [], []⟩
def d_Ratio___ge__ : He.DefD := ⟨("Ratio", some "__ge__"), "__ge__", "Ratio.__ge__", defArgs s_Ratio___ge__, defBody s_Ratio___ge__, defScope s_Ratio___ge__, [], []⟩
def d_Ratio___abs__ : He.DefD := ⟨("Ratio", some "__abs__"), "__abs__", "Ratio.__abs__", defArgs s_Ratio___abs__, defBody s_Ratio___abs__, defScope s_Ratio___abs__, [], []⟩
def d_DuplicateName___init__ : He.DefD := ⟨("DuplicateName", some "__init__"), "__init__", "DuplicateName.__init__", defArgs s_DuplicateName___init__, defBody s_DuplicateName___init__, defScope s_DuplicateName___init__, [], []⟩
def d_BadReading___init__ : He.DefD := ⟨("BadReading", some "__init__"), "__init__", "BadReading.__init__", defArgs s_BadReading___init__, defBody s_BadReading___init__, defScope s_BadReading___init__, [], []⟩
def d_UnknownPoint___init__ : He.DefD := ⟨("UnknownPoint", some "__init__"), "__init__", "UnknownPoint.__init__", defArgs s_UnknownPoint___init__, defBody s_UnknownPoint___init__, defScope s_UnknownPoint___init__, [], []⟩
def d_UnknownReading___init__ : He.DefD := ⟨("UnknownReading", some "__init__"), "__init__", "UnknownReading.__init__", defArgs s_UnknownReading___init__, defBody s_UnknownReading___init__, defScope s_UnknownReading___init__, [], []⟩
def d_LimitReached___init__ : He.DefD := ⟨("LimitReached", some "__init__"), "__init__", "LimitReached.__init__", defArgs s_LimitReached___init__, defBody s_LimitReached___init__, defScope s_LimitReached___init__, [], []⟩
def d_Book_add_point_7c4f : He.DefD := ⟨("Book", some "add_point"), "add_point", "Book.add_point", defArgs s_Book_add_point_7c4f, defBody s_Book_add_point_7c4f, defScope s_Book_add_point_7c4f, [], []⟩
def d_Book___init__ : He.DefD := ⟨("Book", some "__init__"), "__init__", "Book.__init__", defArgs s_Book___init__, defBody s_Book___init__, defScope s_Book___init__, [], []⟩
def d_Book_twin_083b : He.DefD := ⟨("Book", some "twin"), "twin", "Book.twin", defArgs s_Book_twin_083b, defBody s_Book_twin_083b, defScope s_Book_twin_083b, [], []⟩
def d_law_is : He.DefD := ⟨("_law_is", none), "_law_is", "_law_is", defArgs s_law_is, defBody s_law_is, defScope s_law_is, [], []⟩
def d_law_reading_is : He.DefD := ⟨("_law_reading_is", none), "_law_reading_is", "_law_reading_is", defArgs s_law_reading_is, defBody s_law_reading_is, defScope s_law_reading_is, [], []⟩
def d_law_agrees : He.DefD := ⟨("_law_agrees", none), "_law_agrees", "_law_agrees", defArgs s_law_agrees, defBody s_law_agrees, defScope s_law_agrees, [], []⟩
def d_law_draw_e832 : He.DefD := ⟨("_law_draw", none), "_law_draw", "_law_draw", defArgs s_law_draw_e832, defBody s_law_draw_e832, defScope s_law_draw_e832, [], []⟩
def d_law_take_65a1 : He.DefD := ⟨("_law_take", none), "_law_take", "_law_take", defArgs s_law_take_65a1, defBody s_law_take_65a1, defScope s_law_take_65a1, [], []⟩
def d_Reading___init__ : He.DefD := ⟨("Reading", some "__init__"), "__init__", "Reading.__init__", defArgs s_Reading___init__, defBody s_Reading___init__, defScope s_Reading___init__, [], []⟩
def d_Book_require_point : He.DefD := ⟨("Book", some "require_point"), "require_point", "Book.require_point", defArgs s_Book_require_point, defBody s_Book_require_point, defScope s_Book_require_point, [], []⟩
def d_terms_fit : He.DefD := ⟨("terms_fit", none), "terms_fit", "terms_fit", defArgs s_terms_fit, defBody s_terms_fit, defScope s_terms_fit, [], []⟩
def d_Book_add_reading_3063 : He.DefD := ⟨("Book", some "add_reading"), "add_reading", "Book.add_reading", defArgs s_Book_add_reading_3063, defBody s_Book_add_reading_3063, defScope s_Book_add_reading_3063, [], []⟩
def d_Book_change_approximation_15c5 : He.DefD := ⟨("Book", some "change_approximation"), "change_approximation", "Book.change_approximation", defArgs s_Book_change_approximation_15c5, defBody s_Book_change_approximation_15c5, defScope s_Book_change_approximation_15c5, [], []⟩
def d_Book_place_of : He.DefD := ⟨("Book", some "place_of"), "place_of", "Book.place_of", defArgs s_Book_place_of, defBody s_Book_place_of, defScope s_Book_place_of, [], []⟩
def d_Book_change_value_4165 : He.DefD := ⟨("Book", some "change_value"), "change_value", "Book.change_value", defArgs s_Book_change_value_4165, defBody s_Book_change_value_4165, defScope s_Book_change_value_4165, [], []⟩
def d_Book_change_weight_d0e6 : He.DefD := ⟨("Book", some "change_weight"), "change_weight", "Book.change_weight", defArgs s_Book_change_weight_d0e6, defBody s_Book_change_weight_d0e6, defScope s_Book_change_weight_d0e6, [], []⟩
def d_Book_withdraw_8f01 : He.DefD := ⟨("Book", some "withdraw"), "withdraw", "Book.withdraw", defArgs s_Book_withdraw_8f01, defBody s_Book_withdraw_8f01, defScope s_Book_withdraw_8f01, [], []⟩
def d_Book_remove_point_5cca : He.DefD := ⟨("Book", some "remove_point"), "remove_point", "Book.remove_point", defArgs s_Book_remove_point_5cca, defBody s_Book_remove_point_5cca, defScope s_Book_remove_point_5cca, [], []⟩
def d_law_made_9a1d : He.DefD := ⟨("_law_made", none), "_law_made", "_law_made", defArgs s_law_made_9a1d, defBody s_law_made_9a1d, defScope s_law_made_9a1d, [], []⟩
def d_law_call : He.DefD := ⟨("_law_call", none), "_law_call", "_law_call", defArgs s_law_call, defBody s_law_call, defScope s_law_call, [], []⟩
def d_law_told_97da : He.DefD := ⟨("_law_told", none), "_law_told", "_law_told", defArgs s_law_told_97da, defBody s_law_told_97da, defScope s_law_told_97da, [], []⟩
def d_law_point_due : He.DefD := ⟨("_law_point_due", none), "_law_point_due", "_law_point_due", defArgs s_law_point_due, defBody s_law_point_due, defScope s_law_point_due, [], []⟩
def d_law_terms_fit : He.DefD := ⟨("_law_terms_fit", none), "_law_terms_fit", "_law_terms_fit", defArgs s_law_terms_fit, defBody s_law_terms_fit, defScope s_law_terms_fit, [], []⟩
def d_law_reading_due : He.DefD := ⟨("_law_reading_due", none), "_law_reading_due", "_law_reading_due", defArgs s_law_reading_due, defBody s_law_reading_due, defScope s_law_reading_due, [], []⟩
def d_law_due_9bdd : He.DefD := ⟨("_law_due", none), "_law_due", "_law_due", defArgs s_law_due_9bdd, defBody s_law_due_9bdd, defScope s_law_due_9bdd, [], []⟩
def d_law_spoilt : He.DefD := ⟨("_law_spoilt", none), "_law_spoilt", "_law_spoilt", defArgs s_law_spoilt, defBody s_law_spoilt, defScope s_law_spoilt, [], []⟩
def d_law_menu : He.DefD := ⟨("_law_menu", none), "_law_menu", "_law_menu", defArgs s_law_menu, defBody s_law_menu, defScope s_law_menu, [], []⟩
def d_law_terms_5923 : He.DefD := ⟨("_law_terms", none), "_law_terms", "_law_terms", defArgs s_law_terms_5923, defBody s_law_terms_5923, defScope s_law_terms_5923, [], []⟩
def d_law_common : He.DefD := ⟨("_law_common", none), "_law_common", "_law_common", defArgs s_law_common, defBody s_law_common, defScope s_law_common, [], []⟩
def d_law_pair_e2e7 : He.DefD := ⟨("_law_pair", none), "_law_pair", "_law_pair", defArgs s_law_pair_e2e7, defBody s_law_pair_e2e7, defScope s_law_pair_e2e7, [], []⟩
def d_law_weight_f3c6 : He.DefD := ⟨("_law_weight", none), "_law_weight", "_law_weight", defArgs s_law_weight_f3c6, defBody s_law_weight_f3c6, defScope s_law_weight_f3c6, [], []⟩
def d_law_number_d14e : He.DefD := ⟨("_law_number", none), "_law_number", "_law_number", defArgs s_law_number_d14e, defBody s_law_number_d14e, defScope s_law_number_d14e, [], []⟩
def d_law_deed : He.DefD := ⟨("_law_deed", none), "_law_deed", "_law_deed", defArgs s_law_deed, defBody s_law_deed, defScope s_law_deed, [], []⟩
def d_law_row_is : He.DefD := ⟨("_law_row_is", none), "_law_row_is", "_law_row_is", defArgs s_law_row_is, defBody s_law_row_is, defScope s_law_row_is, [], []⟩
def d_row_of : He.DefD := ⟨("row_of", none), "row_of", "row_of", defArgs s_row_of, defBody s_row_of, defScope s_row_of, [], []⟩
def d_law_tape : He.DefD := ⟨("_law_tape", none), "_law_tape", "_law_tape", defArgs s_law_tape, defBody s_law_tape, defScope s_law_tape, [], []⟩
def d_law_7d45 : He.DefD := ⟨("law", none), "law", "law", defArgs s_law_7d45, defBody s_law_7d45, defScope s_law_7d45, [], []⟩
def fn : List He.DefD := [d_Book_add_point_7c4f, d_Book___init__, d_Book_twin_083b, d_law_is, d_law_reading_is, d_law_agrees, d_law_draw_e832, d_law_take_65a1, d_Reading___init__, d_Book_require_point, d_terms_fit, d_Book_add_reading_3063, d_Book_change_approximation_15c5, d_Book_place_of, d_Book_change_value_4165, d_Book_change_weight_d0e6, d_Book_withdraw_8f01, d_Book_remove_point_5cca, d_law_made_9a1d, d_law_call, d_law_told_97da, d_law_point_due, d_law_terms_fit, d_law_reading_due, d_law_due_9bdd, d_law_spoilt, d_law_menu, d_law_terms_5923, d_law_common, d_law_pair_e2e7, d_law_weight_f3c6, d_law_number_d14e, d_law_deed, d_law_row_is, d_row_of, d_law_tape, d_law_7d45, d_Ratio___init__, d_Ratio___add__, d_Ratio___sub__, d_Ratio___mul__, d_Ratio___neg__, d_Ratio___eq__, d_Ratio___lt__, d_Ratio___le__, d_Ratio___gt__, d_Ratio___ge__, d_Ratio___abs__, d_DuplicateName___init__, d_BadReading___init__, d_UnknownPoint___init__, d_UnknownReading___init__, d_LimitReached___init__]
def fa : List He.Fa := [.glo "_law_is", .glo "_law_reading_is", .glo "_law_agrees", .glo "_law_draw", .glo "_law_take", .glo "terms_fit", .glo "_law_made", .glo "_law_call", .glo "_law_told", .glo "_law_point_due", .glo "_law_terms_fit", .glo "_law_reading_due", .glo "_law_due", .glo "_law_spoilt", .glo "_law_menu", .glo "_law_terms", .glo "_law_common", .glo "_law_pair", .glo "_law_weight", .glo "_law_number", .glo "_law_deed", .glo "_law_row_is", .glo "row_of", .glo "_law_tape", .glo "law", .free "isinstance", .free "abs", .free "len", .int "MOST_POINTS" (12), .free "int", .free "bool", .free "tuple", .free "range", .free "list", .int "MOST_COEFFICIENT" (9), .int "MOST_READINGS" (24), .free "enumerate", .free "dict", .free "sum", .cls "Ratio", .noat "Ratio" "top", .noat "Ratio" "bottom", .glo "Ratio", .mkr "Ratio", .meth "Ratio" "__add__", .meth "Ratio" "__sub__", .meth "Ratio" "__mul__", .meth "Ratio" "__neg__", .meth "Ratio" "__eq__", .meth "Ratio" "__lt__", .meth "Ratio" "__le__", .meth "Ratio" "__gt__", .meth "Ratio" "__ge__", .meth "Ratio" "__abs__", .cls "Book", .cls "Reading", .glo "Book", .glo "Reading", .mkr "Book", .mkr "Reading", .noat "Reading" "name", .noat "Reading" "terms", .noat "Reading" "value", .noat "Reading" "weight", .noat "Book" "points", .noat "Book" "approximations", .noat "Book" "readings", .meth "Book" "add_point", .meth "Book" "twin", .meth "Book" "require_point", .meth "Book" "add_reading", .meth "Book" "change_approximation", .meth "Book" "place_of", .meth "Book" "change_value", .meth "Book" "change_weight", .meth "Book" "withdraw", .meth "Book" "remove_point"]
abbrev R : PySem.W.OpenRow := PySem.W.OpenLaw.row PySem.Challenge.rw_plumbnet_k11_rows_and_twins_of_books
abbrev hk : PySem.W.Hook := hookE 6 (fun K => ratCk K && (errB K "DuplicateName" "name" && (errB K "BadReading" "reason" && (errB K "UnknownPoint" "name" && (errB K "UnknownReading" "name" && (errB K "LimitReached" "what" && ((apB K errNames)))))))) fa fn []
def ob (s : PySem.W.SharedT) : He.AlD := obsEG 6 (fun K => ratCk K && (errB K "DuplicateName" "name" && (errB K "BadReading" "reason" && (errB K "UnknownPoint" "name" && (errB K "UnknownReading" "name" && (errB K "LimitReached" "what" && ((apB K errNames)))))))) fa fn [] (HandSHeadRun.getT s)
theorem ob_eq (s : PySem.W.SharedT) : ob s = hk.obs s.abs := obsEG_eq (HandSHeadRun.getT_eq s)
theorem run (w : World) : HandSHeadRun.RunEqI R (PySem.W.view R.prog [0, 47]) hk ob 4500 ((["_wall", "SurveyError", "BadNumber", "ZeroDivisor", "UnknownPoint", "UnknownReading", "DuplicateName", "BadReading", "LimitReached", "MOST_DIGITS", "DIGITS", "read_digits", "Ratio", "MOST_POINTS", "MOST_READINGS", "MOST_COEFFICIENT", "Reading", "terms_fit", "Book", "row_of", "_law_tape", "_law_draw", "_law_take", "_law_common", "_law_pair", "_law_number", "_law_made", "_law_is", "_law_menu", "_law_weight"] : List PySem.Str) ++ (["_law_terms", "_law_spoilt", "_law_deed", "_law_terms_fit", "_law_reading_due", "_law_point_due", "_law_due", "_law_call", "_law_told", "_law_reading_is", "_law_agrees", "_law_row_is"] : List PySem.Str)) w := by
  unfold HandSHeadRun.RunEqI
  kernel_rfl
/-! ### objects: fields, making, methods -/
theorem lookup_rep {O : Own} {H M} {f : Str} {y : D} : ∀ {ns : List Str} {xs : List D} {vs : List V}, Reps O H M xs vs → (ns.zip xs).lookup f = some y → ∃ v, (ns.zip vs).lookup f = some v ∧ Rep O H M y v
  | [], _, _, _, h => by simp at h
  | n :: ns, [], _, _, h => by simp at h
  | n :: ns, x :: xs, vs, r, h => by
    obtain ⟨v, us, rfl, r1, r2⟩ := r
    show ∃ w, List.lookup f ((n, v) :: ns.zip us) = some w ∧ _
    have h : List.lookup f ((n, x) :: ns.zip xs) = some y := h
    unfold List.lookup at h ⊢
    cases e : f == n with
    | true => rw [e] at h; cases h; exact ⟨v, rfl, r1⟩
    | false => rw [e] at h; exact lookup_rep r2 h
theorem lookup_none {f : Str} : ∀ {ns : List Str} (vs : List V), f ∉ ns → (ns.zip vs).lookup f = none
  | [], _, _ => rfl
  | n :: ns, [], _ => rfl
  | n :: ns, v :: vs, h => by
    show List.lookup f ((n, v) :: ns.zip vs) = none
    unfold List.lookup
    have : (f == n) = false := by simp only [beq_eq_false_iff_ne]; exact fun e => h (e ▸ List.mem_cons_self)
    rw [this]
    exact lookup_none vs fun m => h (List.mem_cons_of_mem _ m)
/-- an object, of the memory or by value -/
def ObjD (d : D) (M : Mem) (C : Addr) (ns : List Str) (xs : List D) : Prop := d = .obj C ns xs ∨ ∃ p, d = .ref p ∧ M p = some (.ins C ns xs)
theorem ObjD.at_ {O : Own} {H M} {d : D} {C : Addr} {ns : List Str} {xs : List D} {v : V} (h : ObjD d M C ns xs) (g : Good O H M) (r : Rep O H M d v) : ∃ a dx vs, v = .ref a ∧ H a = some (.ins C dx (ns.zip vs)) ∧ ns.length = vs.length ∧ Reps O H M xs vs := by
  rcases h with rfl | ⟨p, rfl, em⟩
  · obtain ⟨a, dx, vs, e, _, h, l, r⟩ := r; exact ⟨a, dx, vs, e, h, l, r⟩
  · obtain ⟨dx, vs, e, l, rs⟩ := g.at_ p _ em
    exact ⟨p, dx, vs, r, e, l, rs⟩
section
variable {X : Cx} {CR : Addr} {E : DXS} {W : WX} {pos p apos : Pos} {e o : Expr} {es : List Expr} {w wo : DE} {t : DA}
def dFld (okC : Addr → Prop) (f : Str) (w : DE) : DE := fun δ M Q => w δ M fun d M1 => ∃ C ns xs y, ObjD d M1 C ns xs ∧ okC C ∧ (ns.zip xs).lookup f = some y ∧ Q y M1
theorem d_fld {okC : Addr → Prop} {f : Str} (hC : ∀ C, okC C → Cls X.K C ∧ NoAttr X.K C f) (he : PD X (bs X CR E W) e w) (hb : attributeBase e f X.env (eval e X.env) = eval e X.env := by rfl) : PD X (bs X CR E W) (.Attribute e f pos) (dFld okC f w) := by
  refine (pe_fld he hb).imp fun σ H Q h => ?_
  obtain ⟨P, δ, M, Qd, hS, g, x, w, k⟩ := h
  refine ⟨P, δ, M, _, hS, g, x, w, fun v H1 ⟨d, M1, z, g1, r, C, ns, xs, y, hd, ok, l, q⟩ => ?_⟩
  obtain ⟨a, dx, vs, ev, ea, _, rs⟩ := hd.at_ g1 r
  obtain ⟨c, n⟩ := hC C ok
  obtain ⟨u, lu, ru⟩ := lookup_rep rs l
  exact ⟨a, C, dx, _, u, ev, ea, c, n, lu, k _ _ ⟨y, M1, z, g1, ru, q⟩⟩
/-- an own class: its __init__ keeps sp; no exception leaves it -/
structure MkC (P : Program) (w : World) (K : PySem.W.Frag) (mg : Str → Option Value) (base : Heap) (CR : Addr) (k : Nat) (x : Str) (C : Addr) (ps : List Str) (sp : DSp) : Prop where
  g : mg x = some (.ref C)
  ex : ∃ f fd, Mk K C f ∧ FnOk P w K mg base (L2.CX P w) k f fd ps (lSp K CR sp) ∧ Binds K fd ps []
/-- C(..), kept for changing -/
def dMkR (C : Addr) (sp : DSp) (t : DA) : DE := fun δ M Q => t δ M fun ds M1 => ∀ x, M1 x = none → sp (.ref x :: ds) (mput M1 x (.ins C [] [])) (fun d M2 => d = .non ∧ Q (.ref x) M2) noX
/-- C(..), let go -/
def dMkZ (C : Addr) (sp : DSp) (t : DA) : DE := fun δ M Q => t δ M fun ds M1 => ∀ x, M1 x = none → sp (.ref x :: ds) (mput M1 x (.ins C [] [])) (fun d M2 => d = .non ∧ ∃ ns xs, M2 x = some (.ins C ns xs) ∧ Q (.obj C ns xs) (mdel M2 x)) noX
theorem mk_core {C : Addr} {P : Addr → Prop} {H M} {Q : VK} {sp : DSp} {Qd : DK} {ds : List D} {vs : List V} (g : Good ⟨X.K, CR, P⟩ H M) (rs : Reps ⟨X.K, CR, P⟩ H M ds vs)
    (q : ∀ x, M x = none → sp (.ref x :: ds) (mput M x (.ins C [] [])) (fun d M2 => d = .non ∧ Qd (.ref x) M2) noX) (k : ∀ v H', LfV ⟨X.K, CR, P⟩ H M Qd v H' → Q v H') : ∀ x dx, H x = none → H dx = none → dx ≠ x →
      lSp X.K CR sp (.ref x :: (vs ++ [])) (upd (upd H dx (.own x)) x (.ins C dx [])) (fun v H2 => v = .non ∧ Q (.ref x) H2) E0 := by
  intro x dx hx hd hne
  rw [List.append_nil]
  have z1 : Fz ⟨X.K, CR, P⟩ H M (upd H dx (.own x)) M := fz_new g hd
  have g1 : Good ⟨X.K, CR, P⟩ (upd H dx (.own x)) M := good_new g hd
  have hx1 : upd H dx (.own x) x = none := by rw [upd_ne (Ne.symm hne)]; exact hx
  have z2 : Fz ⟨X.K, CR, P⟩ (upd H dx (.own x)) M (upd (upd H dx (.own x)) x (.ins C dx [])) (mput M x (.ins C [] [])) := fz_newM g1 hx1
  have fx := g.none hx
  have g2 : Good ⟨X.K, CR, P⟩ (upd (upd H dx (.own x)) x (.ins C dx [])) (mput M x (.ins C [] [])) := good_put g1 fx.2 z2 ⟨dx, [], upd_same, rfl, rfl⟩
  refine ⟨P, .ref x :: ds, mput M x (.ins C [] []), _, noX, ⟨_, _, rfl, rfl, (rs.mono z1).mono z2⟩, g2, q x fx.1, ?_, fun c d H' l => l.no⟩
  rintro v H' ⟨d, M2, z, g3, r, rfl, q2⟩
  exact ⟨r, k _ _ ⟨.ref x, M2, (z1.trans z2).trans z, g3, rfl, q2⟩⟩
theorem d_mkR {j k : Nat} {x : Str} {C : Addr} {ps : List Str} {sp : DSp} (T : MkC X.prog X.w X.K X.mg X.base CR k x C ps sp) (hr : Room j X.A) (ha : PDA X (bs X CR E W) (e :: es) t) (hk : k + 1 ≤ j := by decide) (hg : Gl X x := by rfl)
    (hdb : (x == ("__debug__" : Str)) = false := by decide) (he : starEach (e :: es) X.env = (false, eval e X.env) :: starEach es X.env := by rfl) (hpl : (backTo pos (starEach es X.env)).any (·.1) = false := by rfl) : PD X (bs X CR E W) (.Call (.Name x p) (e :: es) [] pos) (dMkR C sp t) := by
  obtain ⟨f, fd, mk, F, hb⟩ := T.ex
  refine (pe_make mk F (hr.mono hk) hg T.g hb .nil passL ha hdb he hpl).imp fun σ H Q h => ?_
  obtain ⟨P, δ, M, Qd, hS, g, x, w, k⟩ := h
  exact ⟨P, δ, M, _, hS, g, x, w, fun vs H1 ds M1 z1 g1 rs q => mk_core g1 rs q fun v H' l => k v H' (l.trans z1)⟩
theorem d_mkR0 {j k : Nat} {x : Str} {C : Addr} {ps : List Str} {sp : DSp} (T : MkC X.prog X.w X.K X.mg X.base CR k x C ps sp) (hr : Room j X.A) (hk : k + 1 ≤ j := by decide) (hg : Gl X x := by rfl)
    (hdb : (x == ("__debug__" : Str)) = false := by decide) : PD X (bs X CR E W) (.Call (.Name x p) [] [] pos) (dMkR C sp dNil) := by
  obtain ⟨f, fd, mk, F, hb⟩ := T.ex
  refine (pe_make0 mk F (hr.mono hk) hg T.g hb .nil passL hdb).imp fun σ H Q h => ?_
  obtain ⟨P, δ, M, Qd, hS, g, x, w, k⟩ := h
  exact fun x dx h1 h2 h3 => mk_core (ds := []) (vs := []) g rfl w k x dx h1 h2 h3
theorem mk_coreZ {C : Addr} {P : Addr → Prop} {H M} {Q : VK} {sp : DSp} {Qd : DK} {ds : List D} {vs : List V} (g : Good ⟨X.K, CR, P⟩ H M) (rs : Reps ⟨X.K, CR, P⟩ H M ds vs)
    (q : ∀ x, M x = none → sp (.ref x :: ds) (mput M x (.ins C [] [])) (fun d M2 => d = .non ∧ ∃ ns xs, M2 x = some (.ins C ns xs) ∧ Qd (.obj C ns xs) (mdel M2 x)) noX) (k : ∀ v H', LfV ⟨X.K, CR, P⟩ H M Qd v H' → Q v H') : ∀ x dx, H x = none → H dx = none → dx ≠ x →
      lSp X.K CR sp (.ref x :: (vs ++ [])) (upd (upd H dx (.own x)) x (.ins C dx [])) (fun v H2 => v = .non ∧ Q (.ref x) H2) E0 := by
  intro x dx hx hd hne
  rw [List.append_nil]
  have z1 : Fz ⟨X.K, CR, P⟩ H M (upd H dx (.own x)) M := fz_new g hd
  have g1 : Good ⟨X.K, CR, P⟩ (upd H dx (.own x)) M := good_new g hd
  have hx1 : upd H dx (.own x) x = none := by rw [upd_ne (Ne.symm hne)]; exact hx
  have z2 : Fz ⟨X.K, CR, P⟩ (upd H dx (.own x)) M (upd (upd H dx (.own x)) x (.ins C dx [])) (mput M x (.ins C [] [])) := fz_newM g1 hx1
  have fx := g.none hx
  have g2 : Good ⟨X.K, CR, P⟩ (upd (upd H dx (.own x)) x (.ins C dx [])) (mput M x (.ins C [] [])) := good_put g1 fx.2 z2 ⟨dx, [], upd_same, rfl, rfl⟩
  refine ⟨P, .ref x :: ds, mput M x (.ins C [] []), _, noX, ⟨_, _, rfl, rfl, (rs.mono z1).mono z2⟩, g2, q x fx.1, ?_, fun c d H' l => l.no⟩
  rintro v H' ⟨d, M2, z, g3, r, rfl, ns, xs, em, q2⟩
  exact ⟨r, k _ _ ⟨.obj C ns xs, mdel M2 x, ((z1.trans z2).trans z).trans fz_del, good_del g3, rep_frzO g3 em, q2⟩⟩
theorem d_mkZ {j k : Nat} {x : Str} {C : Addr} {ps : List Str} {sp : DSp} (T : MkC X.prog X.w X.K X.mg X.base CR k x C ps sp) (hr : Room j X.A) (ha : PDA X (bs X CR E W) (e :: es) t) (hk : k + 1 ≤ j := by decide) (hg : Gl X x := by rfl)
    (hdb : (x == ("__debug__" : Str)) = false := by decide) (he : starEach (e :: es) X.env = (false, eval e X.env) :: starEach es X.env := by rfl) (hpl : (backTo pos (starEach es X.env)).any (·.1) = false := by rfl) : PD X (bs X CR E W) (.Call (.Name x p) (e :: es) [] pos) (dMkZ C sp t) := by
  obtain ⟨f, fd, mk, F, hb⟩ := T.ex
  refine (pe_make mk F (hr.mono hk) hg T.g hb .nil passL ha hdb he hpl).imp fun σ H Q h => ?_
  obtain ⟨P, δ, M, Qd, hS, g, x, w, k⟩ := h
  exact ⟨P, δ, M, _, hS, g, x, w, fun vs H1 ds M1 z1 g1 rs q => mk_coreZ g1 rs q fun v H' l => k v H' (l.trans z1)⟩
/-- an own method; what it raises is E's -/
structure MethC (P : Program) (w : World) (K : PySem.W.Frag) (mg : Str → Option Value) (base : Heap) (CR : Addr) (k : Nat) (C : Addr) (name : Str) (ps : List Str) (sp : DSp) : Prop where
  cls : Cls K C
  ex : ∃ f fd, FnOk P w K mg base (L2.CX P w) k f fd ps (lSp K CR sp) ∧ Binds K fd ps [] ∧ Meth K C name f
def dMethC (C : Addr) (name : Str) (sp : DSp) (E : DXS) (wo : DE) (t : DA) : DE := fun δ M Q => wo δ M fun o M1 => ∃ ns xs, ObjD o M1 C ns xs ∧ name ∉ ns ∧ t δ M1 fun ds M2 => ObjD o M2 C ns xs ∧ sp (o :: ds) M2 Q fun C' ns' fs M' => E C' ns' fs δ M'
theorem d_methC {C : Addr} {name : Str} {ps : List Str} {sp : DSp} {pl : Sem Bool} {j k : Nat} (O : MethC X.prog X.w X.K X.mg X.base CR k C name ps sp) (hr : Room j X.A) (tk : Takes X W) (ho : PD X (bs X CR E W) o wo) (ha : PDA X (bs X CR E W) (e :: es) t) (hk : k ≤ j := by decide)
    (hst : starEach (e :: es) X.env = (false, eval e X.env) :: starEach es X.env := by rfl) (hpl : (backTo pos (starEach es X.env)).any (·.1) = false := by rfl)
    (ht : eval (.Call (.Attribute o name apos) (e :: es) [] pos) X.env = (do
      let ov ← eval o X.env
      standAt apos.atName
      let (f, first) ← holding [ov] (getMethod ov name pl)
      callWith pos f first (backTo pos (starEach (e :: es) X.env)) (backToKw pos (keywordEach [] X.env))) := by rfl) : PD X (bs X CR E W) (.Call (.Attribute o name apos) (e :: es) [] pos) (dMethC C name sp E wo t) := by
  obtain ⟨f, fd, F, hb, hm⟩ := O.ex
  refine ⟨fun pins s σ H Q I h => ?_⟩
  obtain ⟨P, δ, M, Qd, hS, g, x, w, kk⟩ := h
  refine PySem.W.methodCall_KW (pl := pl) (thn (ho.run pins s σ H (fun v H' => LfV ⟨X.K, CR, P⟩ H M _ v H') I ⟨P, δ, M, _, hS, g, x, w, fun _ _ l => l⟩) fun u s1 ⟨y, H1, I1, ry, d, M1, z1, g1, r1, ns, xs, hd, hn, q1⟩ => ?_) ht
  obtain ⟨a, dx, vs0, ey, ea, _, _⟩ := hd.at_ g1 r1
  subst ey
  obtain rfl : u = Value.ref a := ry
  refine getmeth_ok I1 ea O.cls hm (lookup_none _ hn) ?_
  refine PySem.W.callWith_K (first := [.ref a]) (h₀ := X.base) I1.ok.mod.kin hm.kp (thn (ha.run pos pins s1 σ H1 (fun vs H2 => ∃ ds M2, Fz ⟨X.K, CR, P⟩ H1 M1 H2 M2 ∧ Good ⟨X.K, CR, P⟩ H2 M2 ∧ Reps ⟨X.K, CR, P⟩ H2 M2 ds vs ∧ sp (d :: ds) M2 Qd fun C ns fs M' => E C ns fs δ M') I1 ⟨P, δ, M1, _, hS.mono z1, g1, x.trans z1, q1, fun vs H2 ds M2 z2 g2 rs q2 => ⟨ds, M2, z2, g2, rs, q2.2⟩⟩) fun us s2 ⟨vs, H2, I2, r, ds, M2, z2, g2, rs, q2⟩ => ⟨I2.kIn, ?_⟩) hst hpl
  refine run_fnS (E := fun σ c d H' => W c d σ H') (us := .ref a :: us) (vs := .ref a :: vs) F (hr.mono hk) hb (passAt tk σ) I2 (.cons rfl r) ?_
  exact ⟨P, d :: ds, M2, Qd, _, ⟨_, _, rfl, r1.mono z2, rs⟩, g2, q2, fun v H' l => kk v H' (l.trans (z1.trans z2)), lfx_w ((hS.mono z1).mono z2) (x.trans (z1.trans z2))⟩
end
/-! ### dicts with texts for keys -/
def getK {α : Type} : List Str → List α → Str → Option α
  | k :: ks, x :: xs, j => if k = j then some x else getK ks xs j
  | _, _, _ => none
def setK {α : Type} : List Str → List α → Str → α → List α
  | k :: ks, x :: xs, j, y => (if k = j then y else x) :: setK ks xs j y
  | _, _, _, _ => []
def delK {α : Type} : List Str → List α → Str → List α
  | k :: ks, x :: xs, j => if k = j then delK ks xs j else x :: delK ks xs j
  | _, _, _ => []
/-- its items -/
abbrev kvsOf (ks : List Str) (vs : List V) : List (Key × V) := (ks.map Sum.inr).zip vs
theorem valV_getK (j : Str) : ∀ (ks : List Str) (vs : List V), valV (kvsOf ks vs) (Sum.inr j : Key) = getK ks vs j
  | [], _ => rfl
  | k :: ks, [] => rfl
  | k :: ks, v :: vs => by
    show valV ((Sum.inr k, v) :: kvsOf ks vs) _ = if k = j then some v else getK ks vs j
    by_cases h : k = j
    · rw [if_pos h, valV_pos (by rw [h])]
    · rw [if_neg h, valV_neg (fun e => h (Sum.inr.inj e)), valV_getK j ks vs]
theorem getK_rep {O : Own} {H M} (j : Str) : ∀ {ks : List Str} {xs : List D} {vs : List V}, Reps O H M xs vs → (∀ y, getK ks xs j = some y → ∃ v, getK ks vs j = some v ∧ Rep O H M y v) ∧ (getK ks xs j = none → getK ks vs j = none)
  | [], _, _, _ => ⟨fun y h => (by cases h), fun _ => rfl⟩
  | k :: ks, [], vs, r => by
    rw [show vs = [] from r]
    exact ⟨fun y h => (by cases h), fun _ => rfl⟩
  | k :: ks, x :: xs, vs, r => by
    obtain ⟨v, us, rfl, r1, r2⟩ := r
    obtain ⟨a, b⟩ := getK_rep j (ks := ks) r2
    unfold getK
    by_cases h : k = j
    · rw [if_pos h, if_pos h]
      exact ⟨fun y e => (by cases e; exact ⟨v, rfl, r1⟩), fun e => (by cases e)⟩
    · rw [if_neg h, if_neg h]; exact ⟨a, b⟩
theorem getK_some {α β : Type} (j : Str) : ∀ {ks : List Str} {xs : List α} {vs : List β}, xs.length = vs.length → (getK ks xs j).isSome = (getK ks vs j).isSome
  | [], _, _, _ => rfl
  | k :: ks, [], [], _ => rfl
  | k :: ks, x :: xs, v :: vs, h => by
    unfold getK
    by_cases e : k = j
    · rw [if_pos e, if_pos e]; rfl
    · rw [if_neg e, if_neg e]; exact getK_some j (by simpa using h)
  | k :: ks, [], v :: vs, h => by cases h
  | k :: ks, x :: xs, [], h => by cases h
theorem getK_mem {α : Type} (j : Str) : ∀ {ks : List Str} {xs : List α}, ks.length = xs.length → ((getK ks xs j).isSome = true ↔ j ∈ ks)
  | [], _, _ => ⟨fun h => (by cases h), fun h => (nomatch h)⟩
  | k :: ks, [], h => by cases h
  | k :: ks, x :: xs, h => by
    unfold getK
    by_cases e : k = j
    · rw [if_pos e]; exact ⟨fun _ => e ▸ List.mem_cons_self, fun _ => rfl⟩
    · rw [if_neg e, getK_mem j (by simpa using h), List.mem_cons]
      exact ⟨.inr, fun h => h.elim (fun z => absurd z.symm e) id⟩
theorem putK_old (j : Str) (y : V) : ∀ {ks : List Str} {vs : List V}, ks.length = vs.length → j ∈ ks → putK (kvsOf ks vs) (Sum.inr j) y = kvsOf ks (setK ks vs j y) := by
  intro ks vs hl hm
  unfold putK
  rw [valV_any, valV_getK, if_pos ((getK_mem j hl).mpr hm)]
  clear hm
  induction ks generalizing vs with
  | nil => cases vs <;> rfl
  | cons k ks ih =>
    cases vs with
    | nil => cases hl
    | cons v vs =>
      show (if (Sum.inr k : Key) = Sum.inr j then (Sum.inr k, y) else (Sum.inr k, v)) :: (kvsOf ks vs).map _ = (Sum.inr k, if k = j then y else v) :: kvsOf ks (setK ks vs j y)
      rw [ih (by simpa using hl)]
      by_cases e : k = j
      · rw [if_pos e, if_pos (by rw [e])]
      · rw [if_neg e, if_neg (fun z => e (Sum.inr.inj z))]
theorem putK_app (j : Str) (y : V) {ks : List Str} {vs : List V} (hl : ks.length = vs.length) (hm : j ∉ ks) : putK (kvsOf ks vs) (Sum.inr j) y = kvsOf (ks ++ [j]) (vs ++ [y]) := by
  unfold putK
  rw [valV_any, valV_getK, if_neg (fun h => hm ((getK_mem j hl).mp h))]
  unfold kvsOf
  rw [List.map_append, List.zip_append (by rw [List.length_map]; exact hl)]; rfl
theorem dropK_kvs (j : Str) : ∀ {ks : List Str} {vs : List V}, ks.length = vs.length → dropK (kvsOf ks vs) (Sum.inr j) = kvsOf (delK ks ks j) (delK ks vs j) ∧ (delK ks ks j).length = (delK ks vs j).length
  | [], [], _ => ⟨rfl, rfl⟩
  | k :: ks, v :: vs, h => by
    obtain ⟨a, b⟩ := dropK_kvs j (ks := ks) (vs := vs) (by simpa using h)
    have e0 : dropK (kvsOf (k :: ks) (v :: vs)) (Sum.inr j) = if k = j then dropK (kvsOf ks vs) (Sum.inr j) else (Sum.inr k, v) :: dropK (kvsOf ks vs) (Sum.inr j) := by
      show List.filter _ ((Sum.inr k, v) :: kvsOf ks vs) = _
      rw [List.filter_cons]
      by_cases e : k = j
      · rw [if_pos e, if_neg (by simp [e])]; rfl
      · rw [if_neg e, if_pos (by simp [e])]; rfl
    rw [e0]
    show _ = kvsOf (if k = j then delK ks ks j else k :: delK ks ks j) (if k = j then delK ks vs j else v :: delK ks vs j) ∧ _
    by_cases e : k = j
    · rw [if_pos e, if_pos e, if_pos e]; refine ⟨a, ?_⟩; show (if k = j then _ else _ : List _).length = (if k = j then _ else _ : List _).length; rw [if_pos e, if_pos e]; exact b
    · rw [if_neg e, if_neg e, if_neg e, a]; refine ⟨rfl, ?_⟩; show (if k = j then _ else _ : List _).length = (if k = j then _ else _ : List _).length; rw [if_neg e, if_neg e, List.length_cons, List.length_cons, b]
  | [], v :: vs, h => by cases h
  | k :: ks, [], h => by cases h
theorem setK_len {α : Type} (j : Str) (y : α) : ∀ {ks : List Str} {xs : List α}, ks.length = xs.length → (setK ks xs j y).length = xs.length
  | [], [], _ => rfl
  | k :: ks, x :: xs, h => by
    show (_ :: setK ks xs j y).length = _
    rw [List.length_cons, List.length_cons, setK_len j y (by simpa using h)]
  | [], x :: xs, h => by cases h
  | k :: ks, [], h => by cases h
theorem reps_setK {O : Own} {H M} {j : Str} {y : D} {v : V} (r0 : Rep O H M y v) : ∀ {ks : List Str} {xs : List D} {vs : List V}, Reps O H M xs vs → Reps O H M (setK ks xs j y) (setK ks vs j v)
  | [], [], vs, r => by rw [show vs = [] from r]; exact rfl
  | [], x :: xs, vs, r => by obtain ⟨v1, us, rfl, _, _⟩ := r; exact rfl
  | k :: ks, [], vs, r => by rw [show vs = [] from r]; exact rfl
  | k :: ks, x :: xs, vs, r => by
    obtain ⟨v1, us, rfl, r1, r2⟩ := r
    refine ⟨if k = j then v else v1, setK ks us j v, rfl, ?_, reps_setK r0 r2⟩
    by_cases e : k = j
    · rw [if_pos e, if_pos e]; exact r0
    · rw [if_neg e, if_neg e]; exact r1
theorem reps_delK {O : Own} {H M} {j : Str} : ∀ {ks : List Str} {xs : List D} {vs : List V}, Reps O H M xs vs → Reps O H M (delK ks xs j) (delK ks vs j)
  | [], [], vs, r => by rw [show vs = [] from r]; exact rfl
  | [], x :: xs, vs, r => by obtain ⟨v1, us, rfl, _, _⟩ := r; exact rfl
  | k :: ks, [], vs, r => by rw [show vs = [] from r]; exact rfl
  | k :: ks, x :: xs, vs, r => by
    obtain ⟨v1, us, rfl, r1, r2⟩ := r
    show Reps O H M (if k = j then delK ks xs j else x :: delK ks xs j) (if k = j then delK ks us j else v1 :: delK ks us j)
    by_cases e : k = j
    · rw [if_pos e, if_pos e]; exact reps_delK r2
    · rw [if_neg e, if_neg e]; exact ⟨v1, _, rfl, r1, reps_delK r2⟩
/-! ### several except clauses, each with a name -/
/-- what the clauses wish of an error of the body, one after the other -/
def wManyA (K : PySem.W.Frag) (i : Nat) (Wout : WX) (D : Ends) : List (Value × (Addr → Value → Option Addr → TS)) → WX
  | [] => Wout
  | (c, ts) :: r => fun cls d σ H => ∃ b, PySem.W.exmOne K cls c = some b ∧
      (b = true → ∀ a, H a = none → ts a cls d { nx := fun σ' H' => D.nx (σ'.set i none) H', rt := D.rt, bk := fun σ' H' => D.bk (σ'.set i none) H', ct := fun σ' H' => D.ct (σ'.set i none) H' } (σ.set i (some (.ref a))) H) ∧ (b = false → wManyA K i Wout D r cls d σ H)
inductive HdsA (X : Cx) (n : Str) : List ExceptHandler → List (Value × (Addr → Value → Option Addr → TS)) → Prop
  | nil : HdsA X n [] []
  | cons {x : Str} {c : Value} {ts : Addr → Value → Option Addr → TS} {b₀ : Stmt} {suite : List Stmt} {np pos' : Pos} {hds : List ExceptHandler} {l : List (Value × (Addr → Value → Option Addr → TS))} (hc : Names X x c)
      (hsu : ∀ (a : Addr) (oe : Obj) (cls : Value) (d : Option Addr) (pn : List (Addr × Obj)), Zc cls d oe → (∃ vs, oe.data = .fields vs) → PSs (X.suite a ((a, oe) :: pn)) (b₀ :: suite) (ts a cls d)) (r : HdsA X n hds l) :
      HdsA X n (.ExceptHandler (some (.Name x np)) (some n) (b₀ :: suite) pos' :: hds) ((c, ts) :: l)
section
variable {X : Cx} {body : List Stmt} {h₀ : ExceptHandler} {hds : List ExceptHandler} {l : List (Value × (Addr → Value → Option Addr → TS))} {pos : Pos} {tb : WX → TS} {Wout : WX} {n : Str} {i : Nat}
theorem ps_try_manyA (hs : X.stack = X.env :: X.outer) (hf : X.env.frame = some X.env.locals) (hN : X.N.Nodup) (hi : X.N[i]? = some n) (hln : X.env.kindOf n = some .local) (tk : Takes X Wout)
    (hb : ∀ (W : WX) (pn : List (Addr × Obj)) (xe : Value → Shared → Prop), Takes (X.tr pn xe) W → PassesOwn (model X.prog X.w) X.A X.env xe → PSs (X.tr pn xe) body (tb W))
    (hh : HdsA X n (h₀ :: hds) l) : PS X (.Try body (h₀ :: hds) [] [] pos) (fun D σ H => tb (wManyA X.K i Wout D l) D σ H) := by
  refine ⟨fun pins s σ H D I h => ?_⟩
  have ok := I.ok
  have hfr : X.A.frames = some (X.env :: X.outer) := by rw [ok.frames, hs]
  have hloc : Loc X.env.scope n := .inl hln
  refine wpAny_Try_except ?_
  refine wpAny_mono ((hb (wManyA X.K i Wout D l) (X.pn ++ pins) (fun e s₁ => wpAny (model X.prog X.w) X.A (noteFrame e X.env) (fun _ s₂ => wpAny (model X.prog X.w) X.A (setFlight e none) (fun _ s₃ =>
    wpAny (model X.prog X.w) X.A (handleBy e X.env (h₀ :: hds)) (SP X pins D) X.xe s₃) X.xe s₂) X.xe s₁) (fun u s' xx => ?_) PassesOwn.looking).run [] s σ H D (I.toTry _) h) (fun f s1 hsp => ?_) (fun e s1 he => he)
  · -- the catch
    obtain ⟨a, B, sI, pins', σ', H', cls, d, rfl, J', nb, up, sky, na, os, ag, w⟩ := xx
    have J : Inv X pins σ' H' sI := J'.ofTry ok
    have sky' : Sky B (X.env :: X.outer) a (Zc cls d) X.env.locals s'.heap := by rw [← hs]; exact sky
    show wpAny (model X.prog X.w) X.A (noteFrame (.ref a) X.env) _ _ _
    refine Sky.land Zc.steady hfr hf sky' fun h3 fl3 up3 => ?_
    have J3 : Inv X pins σ' H' { s' with heap := h3 } := J.landed nb fl3.1 (up.trans up3) os ag
    obtain ⟨oe3, vs3, he3, hz3, hd3⟩ := fl3.there
    have notFr : ∀ {h : Heap} {o : Obj} {vs : Array Value}, h.FunFrames B (X.env :: X.outer) → h.get? a = some o → o.data = .fields vs → a ∉ frs (X.env :: X.outer) := fun {h o vs} ff e dd hm => by
      obtain ⟨_, o', e', hnf⟩ := ff.mem hm
      rw [e] at e'; cases e'
      exact hnf _ dd
    have nfr := notFr fl3.2.2.1 he3 hd3
    have nL : a ≠ X.env.locals := fun z => nfr (List.mem_filterMap.mpr ⟨X.env, List.mem_cons_self, by rw [hf, z]⟩)
    have nF : a ∉ X.fs := fun hm => by
      obtain ⟨e, he, q⟩ := List.mem_filterMap.mp hm
      exact nfr (List.mem_filterMap.mpr ⟨e, List.mem_cons_of_mem _ he, q⟩)
    have S3 := J3.suite he3 hd3 na nL nF
    have go : ∀ {hds' : List ExceptHandler} {l' : List (Value × (Addr → Value → Option Addr → TS))}, HdsA X n hds' l' → wManyA X.K i Wout D l' cls d σ' H' →
        wpAny (model X.prog X.w) X.A (handleBy (.ref a) X.env hds') (SP X pins D) X.xe { s' with heap := h3 } := by
      intro hds' l' hk
      induction hk with
      | nil =>
        intro w
        refine wpAny_handleBy_nil ?_
        obtain ⟨k1, k2, k3, oe, vs, T, oT, ts', he, hz, hd, h1, hr⟩ := id fl3
        unfold PySem.passOn
        refine wpAny_bind (wpAny_field he hd h1 ?_)
        rw [if_neg (show ¬ ((Value.ref T == Value.none) = true) from by simp)]
        have fin : wpAny (model X.prog X.w) X.A (setFlight (.ref a) X.env.frame) (fun _ s4 => wpAny (model X.prog X.w) X.A (throw (.ref a) : Sem Flow) (SP X pins D) X.xe s4) X.xe { s' with heap := h3 } := by
          rw [hf]
          refine HandSPX.setFlight_upZ fl3 fun h4 hh4 up4 => wpAny_throw (tk _ _ ?_)
          exact ⟨a, B, sI, pins, σ', H', cls, d, rfl, J, nb, (up.trans up3).trans up4, .inr (.inr (by rw [hs]; exact hh4)), na, os, ag, w⟩
        first
          | exact wpAny_bind (wpAny_pure (wpAny_bind fin))
          | exact wpAny_bind fin
      | @cons x c ts b₀ suite np pos' hds2 l2 hc hsu r ih =>
        intro w
        obtain ⟨b, hb1, hyes, hno⟩ := w
        refine wpAny_handleBy_cons (codeAny_handlers_test ?_) (by intro q; cases q)
        have LT : PySem.W.Looks (model X.prog X.w) h3 (typeOf (.ref a)) cls := fun A Q E s k q => wpAny_typeOf_ref (k _ _ he3) (by rw [hz3.1]; exact q)
        have LM := PySem.W.exm_one (M := model X.prog X.w) (J3.kIn) LT hb1
        have test : ∀ {Q : Value → Shared → Prop} {E : Value → Shared → Prop}, Q c { s' with heap := h3 } → wpAny (model X.prog X.w) (X.A.mark (some (.ref a))) (eval (.Name x np) X.env) Q E { s' with heap := h3 } := fun {Q E} q => by
          obtain ⟨hg, hdbg, hm | ⟨hm, hv, hnn⟩⟩ := hc
          · exact ld_glob (X := X.suite a ((a, oe3) :: (X.pn ++ pins))) S3 hg hm q hdbg
          · exact ld_blt (X := X.suite a ((a, oe3) :: (X.pn ++ pins))) S3 hg hm hv q hnn hdbg
        refine test (LM.here ?_)
        cases b with
        | true =>
          refine codeAny_handlers_suite_as ?_
          refine HandSPX.lands_againZ fl3 fun h4 fl4 up4 => ?_
          have J4 : Inv X pins σ' H' { s' with heap := h4 } := J.landed nb fl4.1 ((up.trans up3).trans up4) os ag
          obtain ⟨oe4, vs4, he4, hz4, hd4⟩ := fl4.there
          have S4 := J4.suite he4 hd4 na nL nF
          refine store_ok (X := X.suite a ((a, oe4) :: (X.pn ++ pins))) (v := .ref a) S4 hN hi hloc rfl (fun s5 S5 => ?_) (.inr hln)
          refine wpAny_mono ((hsu a oe4 cls d (X.pn ++ pins) hz4 ⟨_, hd4⟩).run [] s5 _ H' _ S5 (hyes rfl a na)) (fun f s6 hsp => ?_) (fun _ _ z => False.elim z)
          have end_ : ∀ {σ6 : L2.St} {H6 : Hp} {Q : Shared → Prop}, Inv (X.suite a ((a, oe4) :: (X.pn ++ pins))) [] σ6 H6 s6 → (∀ s7, Inv X pins (σ6.set i none) H6 s7 → Q s7) →
              wpAny (model X.prog X.w) X.A (do bindName X.env n .none; unbindBehindTheSuite X.env n pos') (fun _ s7 => Q s7) X.xe s6 := fun {σ6 H6 Q} S6 hq => gone_ok (S6.unsuite ok) hN hi hln hq
          cases f with
          | next =>
            obtain ⟨σ6, H6, S6, q6⟩ := hsp
            exact end_ S6 fun s7 J7 => ⟨_, _, J7, q6⟩
          | brk =>
            obtain ⟨σ6, H6, S6, q6⟩ := hsp
            exact end_ S6 fun s7 J7 => ⟨_, _, J7, q6⟩
          | cont =>
            obtain ⟨σ6, H6, S6, q6⟩ := hsp
            exact end_ S6 fun s7 J7 => ⟨_, _, J7, q6⟩
          | ret u =>
            obtain ⟨v6, σ6, H6, S6, r6, q6⟩ := hsp
            exact end_ S6 fun s7 J7 => ⟨_, _, _, J7, r6, q6⟩
        | false =>
          show wpAny _ X.A (handleBy (.ref a) X.env hds2) _ _ _
          exact ih (hno rfl)
    exact go hh w
  · cases f with
    | next =>
      obtain ⟨σ', H', J', q⟩ := hsp
      exact wpAny_execs_nil ⟨σ', H', J'.ofTry ok, q⟩
    | brk =>
      obtain ⟨σ', H', J', q⟩ := hsp
      exact ⟨σ', H', J'.ofTry ok, q⟩
    | cont =>
      obtain ⟨σ', H', J', q⟩ := hsp
      exact ⟨σ', H', J'.ofTry ok, q⟩
    | ret u =>
      obtain ⟨v, σ', H', J', r, q⟩ := hsp
      exact ⟨v, σ', H', J'.ofTry ok, r, q⟩
end
/-! over data: each clause's error has one flat field -/
structure Hd where
  C : Addr
  f : Str
  ws : Addr → D → DSt
/-- which clause takes an error of the class at C -/
def pick (C : Addr) (f : Str) : List Hd → Option Hd
  | [] => none
  | h :: r => if h.C = C ∧ h.f = f then some h else pick C f r
def dTryM (i : Nat) (wb : DXS → DSt) (hs : List Hd) : DSt := fun Dn δ M => wb (fun C ns fs δ' M' => ∃ f y h, ns = [f] ∧ fs = [y] ∧ flatD y = true ∧ pick C f hs = some h ∧ ∀ a, h.ws a y { nx := fun δ2 M2 => Dn.nx (δ2.set i none) M2, rt := Dn.rt, bk := fun δ2 M2 => Dn.bk (δ2.set i none) M2, ct := fun δ2 M2 => Dn.ct (δ2.set i none) M2 } (δ'.set i (some (.ref a))) M') Dn δ M
/-- the classes are not one another's -/
def Apart (K : PySem.W.Frag) (hs : List Hd) : Prop := ∀ h h', h ∈ hs → h' ∈ hs → PySem.W.exmOne K (.ref h.C) (.ref h'.C) = some (decide (h.C = h'.C))
section
variable {X : Cx} {CR : Addr} {E : DXS} {W : WX} {pos : Pos} {n : Str} {i : Nat}
/-- what of a clause's suite is wanted -/
def SuOk (X : Cx) (CR : Addr) (C : Addr) (f : Str) (suite : List Stmt) (ws : Addr → D → DSt) : Prop := ∀ (a : Addr) (oe : Obj) (d : Option Addr) (y : D) (W' : WX) (pn : List (Addr × Obj)), Zc (.ref C) d oe → (∃ vs, oe.data = .fields vs) → flatD y = true → (∀ c d' σ' H', W' c d' σ' H' → Held d f y H') → PDSs (X.suite a ((a, oe) :: pn)) (bs X CR tru W') suite (ws a y)
def suTS (X : Cx) (CR : Addr) (C : Addr) (f : Str) (ws : Addr → D → DSt) : Addr → Value → Option Addr → TS := fun a cls d Dn σ H => ∃ (y : D) (W' : WX), cls = .ref C ∧ flatD y = true ∧ (∀ c d' σ' H', W' c d' σ' H' → Held d f y H') ∧ lS (bs X CR tru W') (ws a y) Dn σ H
inductive HdsD (X : Cx) (CR : Addr) (n : Str) : List ExceptHandler → List Hd → Prop
  | nil : HdsD X CR n [] []
  | cons {x f : Str} {C : Addr} {ws : Addr → D → DSt} {b₀ : Stmt} {suite : List Stmt} {np pos' : Pos} {hds : List ExceptHandler} {l : List Hd} (hc : Names X x (.ref C)) (hsu : SuOk X CR C f (b₀ :: suite) ws) (r : HdsD X CR n hds l) :
      HdsD X CR n (.ExceptHandler (some (.Name x np)) (some n) (b₀ :: suite) pos' :: hds) (⟨C, f, ws⟩ :: l)
def ofHd (X : Cx) (CR : Addr) (h : Hd) : Value × (Addr → Value → Option Addr → TS) := (.ref h.C, suTS X CR h.C h.f h.ws)
theorem HdsD.hds {hds : List ExceptHandler} {l : List Hd} (h : HdsD X CR n hds l) : HdsA X n hds (l.map (ofHd X CR)) := by
  induction h with
  | nil => exact .nil
  | cons hc hsu r ih => exact .cons hc (fun a oe cls d pn hz hv => ⟨fun p s σ H Dn I ⟨y, W', h1, h2, h3, q⟩ => by
      subst h1
      exact (hsu a oe d y W' pn hz hv h2 h3).run p s σ H Dn I q⟩) ih
theorem pick_mem {C : Addr} {f : Str} {h : Hd} : ∀ {hs : List Hd}, pick C f hs = some h → h ∈ hs ∧ h.C = C ∧ h.f = f
  | [], e => by cases e
  | x :: hs, e => by
    unfold pick at e
    by_cases c : x.C = C ∧ x.f = f
    · rw [if_pos c] at e; cases e; exact ⟨List.mem_cons_self, c⟩
    · rw [if_neg c] at e
      obtain ⟨a, b⟩ := pick_mem e
      exact ⟨List.mem_cons_of_mem _ a, b⟩
theorem s_tryM {body : List Stmt} {h₀ : ExceptHandler} {hds : List ExceptHandler} {l : List Hd} {wb : DXS → DSt} (ap : Apart X.K l) (one : ∀ h h', h ∈ l → h' ∈ l → h.C = h'.C → h.f = h'.f) (tk : Takes X W) (hN : X.N.Nodup)
    (hb : ∀ (E' : DXS) (W' : WX) (pn : List (Addr × Obj)) (xe : Value → Shared → Prop), Takes (X.tr pn xe) W' → PassesOwn (model X.prog X.w) X.A X.env xe → PDSs (X.tr pn xe) (bs X CR E' W') body (wb E'))
    (hh : HdsD X CR n (h₀ :: hds) l) (hi : X.N[i]? = some n := by rfl) (hln : X.env.kindOf n = some .local := by rfl) (hs : X.stack = X.env :: X.outer := by rfl) (hf : X.env.frame = some X.env.locals := by rfl) :
    PDS X (bs X CR E W) (.Try body (h₀ :: hds) [] [] pos) (dTryM i wb l) := by
  refine (ps_try_manyA (tb := fun W' Dn σ H => ∃ E', lS (bs X CR E' W') (wb E') Dn σ H) (Wout := W) hs hf hN hi hln tk
    (fun W' pn xe tk' po => ⟨fun p s σ H Dn I ⟨E', q⟩ => (hb E' W' pn xe tk' po).run p s σ H Dn I q⟩) hh.hds).imp fun Dn σ H h => ?_
  obtain ⟨P, δ, M, Dd, hS, g, xl, w, k⟩ := h
  refine ⟨_, P, δ, M, Dd, hS, g, ?_, w, k⟩
  rintro c d σ' H' ⟨C', ns, fs, δ', M', rfl, z, g', hS', er, f, y, h, rfl, rfl, hy, hp, hw⟩
  obtain ⟨hd, dd, ed, fr⟩ := errD_one er hy
  have kt := k.trans z
  obtain ⟨hm, eC, ef⟩ := pick_mem hp
  subst eC; subst ef
  have go : ∀ l' : List Hd, (∀ x, x ∈ l' → x ∈ l) → pick h.C h.f l' = some h → wManyA X.K i W Dn (l'.map (ofHd X CR)) (.ref h.C) d σ' H' := by
    intro l'
    induction l' with
    | nil => intro _ e; cases e
    | cons x l' ih =>
      intro sub e
      have hx := sub x List.mem_cons_self
      refine ⟨decide (h.C = x.C), ap h x hm hx, fun eb a ha => ?_, fun eb => ?_⟩
      · have exC : h.C = x.C := of_decide_eq_true eb
        have ex : x = h := by
          unfold pick at e
          rw [if_pos ⟨exC.symm, one x h hx hm exC.symm⟩] at e
          cases e; rfl
        subst ex
        refine ⟨y, LfXS ⟨X.K, CR, P⟩ H' M' tru, rfl, hy, fun c d' σ2 H2 ⟨_, _, _, _, M2, _, z2, _⟩ => ?_, P, _, M', _, hS'.set (d := .ref a) (v := .ref a) rfl, g', fun c d' σ2 H2 h => h, hw a, ?_⟩
        · obtain ⟨dd', ed', eh⟩ := hd
          exact ⟨dd', ed', (z2.st dd' _ (by rw [ed] at ed'; cases ed'; exact fr) eh).1⟩
        · exact ⟨fun σ H' ⟨δ2, M2, z2, g2, hS2, q⟩ => kt.nx _ H' ⟨_, M2, z2, g2, hS2.unset, q⟩, kt.rt, fun σ H' ⟨δ2, M2, z2, g2, hS2, q⟩ => kt.bk _ H' ⟨_, M2, z2, g2, hS2.unset, q⟩, fun σ H' ⟨δ2, M2, z2, g2, hS2, q⟩ => kt.ct _ H' ⟨_, M2, z2, g2, hS2.unset, q⟩⟩
      · have exC : ¬ h.C = x.C := of_decide_eq_false eb
        refine ih (fun z hz => sub z (List.mem_cons_of_mem _ hz)) ?_
        unfold pick at e
        rw [if_neg fun z => exC z.1.symm] at e
        exact e
  exact go l (fun x h => h) hp
end
/-! ### dicts: rules -/
section
variable {X : Cx} {CR : Addr} {E : DXS} {W : WX} {pos pos' p2 : Pos} {e o i value : Expr} {w wo wi wv : DE}
def dDNew : DE := fun _ M Q => ∀ p, M p = none → Q (.ref p) (mput M p (.dic [] []))
theorem newM {O : Own} {H M} {p : Addr} {ho : HO} {mo : MO} {Q : DK} (g : Good O H M) (hp : H p = none) (r : ∀ H' M', Fz O H M H' M' → H' p = some ho → RepO O H' M' p mo) (q : Q (.ref p) (mput M p mo)) : LfV O H M Q (.ref p) (upd H p ho) := by
  have z : Fz O H M (upd H p ho) (mput M p mo) := fz_newM g hp
  exact ⟨.ref p, _, z, good_put g (g.none hp).2 z (r _ _ z upd_same), rfl, q⟩
theorem d_dnew : PD X (bs X CR E W) (.Dict [] [] pos) dDNew := by
  refine (pe_dnewK).imp fun σ H Q h => ?_
  obtain ⟨P, δ, M, Qd, hS, g, x, w, k⟩ := h
  intro p hp
  exact k _ _ (newM (mo := .dic [] []) g hp (fun H' M' z e => ⟨[], e, rfl, rfl⟩) (w p (g.none hp).1))
/-- {k: v, ..} with texts written for keys -/
def dVals : List DE → DS0 → Mem → (List D → Mem → Prop) → Prop
  | [], _, M, Q => Q [] M
  | w :: ws, δ, M, Q => w δ M fun x M1 => dVals ws δ M1 fun xs M2 => Q (x :: xs) M2
def dDDisp (ks : List Str) (ws : List DE) : DE := fun δ M Q => ∀ p, M p = none → dVals ws δ (mput M p (.dic [] [])) fun xs M2 => M2 p = some (.dic [] []) ∧ xs.length = ks.length ∧ Q (.ref p) (mput M2 p (.dic ks xs))
inductive PKD (X : Cx) (B : Bs) : List (Option Expr) → List Expr → List Str → List DE → Prop where
  | nil : PKD X B [] [] [] []
  | cons {ke e : Expr} {k : Str} {w : DE} {kes : List (Option Expr)} {es : List Expr} {ks : List Str} {ws : List DE} (hk : PD X B ke (dC (.str k))) (he : PD X B e w) (r : PKD X B kes es ks ws) : PKD X B (some ke :: kes) (e :: es) (k :: ks) (w :: ws)
def trsOf (B : Bs) : List Str → List DE → List (TE × TE)
  | k :: ks, w :: ws => (lE B (dC (.str k)), lE B w) :: trsOf B ks ws
  | _, _ => []
theorem PKD.pps {B : Bs} {kes : List (Option Expr)} {es : List Expr} {ks : List Str} {ws : List DE} (h : PKD X B kes es ks ws) : PPs X pos kes es (trsOf B ks ws) := by
  induction h with
  | nil => exact pps_nil
  | cons hk he r ih => exact pps_cons hk he ih
theorem pairs_of {P : Addr → Prop} {B : Bs} {σ : L2.St} {δ : DS0} : ∀ (ks : List Str) (ws : List DE) (H : Hp) (M : Mem) (Qd : List D → Mem → Prop) (Q : List (V × V) → Hp → Prop), ks.length = ws.length → RepS ⟨B.K, B.CR, P⟩ H M δ σ → Good ⟨B.K, B.CR, P⟩ H M → XL ⟨B.K, B.CR, P⟩ H M B.E B.W → dVals ws δ M Qd →
    (∀ xs vs H' M', Fz ⟨B.K, B.CR, P⟩ H M H' M' → Good ⟨B.K, B.CR, P⟩ H' M' → Reps ⟨B.K, B.CR, P⟩ H' M' xs vs → ks.length = vs.length → Qd xs M' → Q ((ks.map V.str).zip vs) H') → tPairs (trsOf B ks ws) σ H Q
  | [], [], H, M, Qd, Q, _, hS, g, x, h, k => k [] [] H M Fz.refl g rfl rfl h
  | k0 :: ks, w :: ws, H, M, Qd, Q, hl, hS, g, x, h, k => by
    refine ⟨P, δ, M, (fun d M' => d = .str k0 ∧ M' = M), hS, g, x, ⟨rfl, rfl⟩, fun vx H1 ⟨d, M1, z1, g1, r1, ed, eM⟩ => ?_⟩
    subst ed; subst eM
    rw [show vx = .str k0 from r1]
    refine ⟨P, δ, M1, _, hS.mono z1, g1, x.trans z1, h, fun vy H2 ⟨d2, M2, z2, g2, r2, q2⟩ => ?_⟩
    refine pairs_of ks ws H2 M2 _ _ (by simpa using hl) ((hS.mono z1).mono z2) g2 ((x.trans z1).trans z2) q2 fun xs vs H' M' z g' rs hl2 q' => ?_
    exact k (d2 :: xs) (vy :: vs) H' M' ((z1.trans z2).trans z) g' ⟨vy, vs, rfl, r2.mono z, rs⟩ (by simp [hl2]) q'
  | [], w :: ws, _, _, _, _, hl, _, _, _, _, _ => by cases hl
  | k :: ks, [], _, _, _, _, hl, _, _, _, _, _ => by cases hl
theorem mergeK_of : ∀ (ks : List Str) (vs : List V) (acc : List (Key × V)), ks.length = vs.length → ks.Nodup → (∀ k, k ∈ ks → valV acc (Sum.inr k : Key) = none) → mergeK acc (kvsOf ks vs) = acc ++ kvsOf ks vs
  | [], [], acc, _, _, _ => by show acc = acc ++ []; rw [List.append_nil]
  | k :: ks, v :: vs, acc, hl, hn, ha => by
    obtain ⟨h1, h2⟩ := List.nodup_cons.mp hn
    show mergeK (putK acc (Sum.inr k) v) (kvsOf ks vs) = acc ++ ((Sum.inr k, v) :: kvsOf ks vs)
    rw [putK_new v (ha k List.mem_cons_self), mergeK_of ks vs _ (by simpa using hl) h2 fun j hj => ?_, List.append_assoc]
    · rfl
    · rw [valV_snoc _ _ _ _ (ha k List.mem_cons_self), if_neg (fun e => h1 (by rw [← Sum.inr.inj e]; exact hj))]
      exact ha j (List.mem_cons_of_mem _ hj)
  | [], v :: vs, _, hl, _, _ => by cases hl
  | k :: ks, [], _, hl, _, _ => by cases hl
theorem kvs_pairs : ∀ (ks : List Str) (vs : List V), (ks.map V.str).zip vs = (kvsOf ks vs).map fun kv => (kV kv.1, kv.2)
  | [], _ => rfl
  | k :: ks, [] => rfl
  | k :: ks, v :: vs => by
    show (V.str k, v) :: (ks.map V.str).zip vs = (kV (Sum.inr k), v) :: (kvsOf ks vs).map _
    rw [kvs_pairs ks vs]; rfl
theorem d_ddisp {kes : List (Option Expr)} {es : List Expr} {ks : List Str} {ws : List DE} (h : PKD X (bs X CR E W) kes es ks ws) (hn : ks.Nodup) (hw : ks.length = ws.length) (hall : kes.all (·.isSome) = true) (hl : kes.length = es.length) (h0 : kes ≠ []) (h15 : kes.length ≤ 15) (hk15 : ks.length ≤ 15) : PD X (bs X CR E W) (.Dict kes es pos) (dDDisp ks ws) := by
  refine (pe_disp h.pps hall hl h0 h15).imp fun σ H Q hh => ?_
  obtain ⟨P, δ, M, Qd, hS, g, x, w, k⟩ := hh
  intro p hp
  have z0 : Fz ⟨X.K, CR, P⟩ H M (upd H p (.dK [])) (mput M p (.dic [] [])) := fz_newM g hp
  have g0 : Good ⟨X.K, CR, P⟩ (upd H p (.dK [])) (mput M p (.dic [] [])) := good_put g (g.none hp).2 z0 ⟨[], upd_same, rfl, rfl⟩
  refine pairs_of ks ws _ _ _ _ hw (hS.mono z0) g0 (x.trans z0) (w p (g.none hp).1) fun xs vs H' M' z g' rs hl2 q' => ?_
  obtain ⟨em, hlx, q⟩ := q'
  obtain ⟨us, e1, l1, r1⟩ := g'.at_ p _ em
  have e1 : H' p = some (.dK []) := e1
  refine ⟨e1, kvsOf ks vs, kvs_pairs ks vs, ?_, ?_⟩
  · show ((ks.map Sum.inr).zip vs).length ≤ 15
    rw [List.length_zip, List.length_map]; omega
  · rw [mergeK_of ks vs [] hl2 hn (fun k _ => rfl), List.nil_append]
    have z3 : Fz ⟨X.K, CR, P⟩ H' M' (upd H' p (.dK (kvsOf ks vs))) (mput M' p (.dic ks xs)) := fz_put g' em
    exact k _ _ ⟨.ref p, _, (z0.trans z).trans z3, good_put g' (g'.noP em) z3 ⟨vs, upd_same, hl2, rs.mono z3⟩, rfl, q⟩
/-- d[k] -/
def dDGet (wo wi : DE) : DE := fun δ M Q => wo δ M fun o M1 => wi δ M1 fun j M2 => ∃ p ks xs k y, o = .ref p ∧ j = .str k ∧ M2 p = some (.dic ks xs) ∧ getK ks xs k = some y ∧ Q y M2
theorem dget_of {O : Own} {H M} {p : Addr} {ks : List Str} {xs : List D} (g : Good O H M) (em : M p = some (.dic ks xs)) (k : Str) : (∀ y, getK ks xs k = some y → ∃ v, DGet H p (.str k) (some v) ∧ Rep O H M y v) ∧ ∃ r : Option V, DGet H p (.str k) r ∧ r.isSome = decide (k ∈ ks) := by
  obtain ⟨vs, e, l, rs⟩ := g.at_ p _ em
  have e : H p = some (.dK (kvsOf ks vs)) := e
  obtain ⟨a, b⟩ := getK_rep k (ks := ks) rs
  have hg : DGet H p (.str k) (getK ks vs k) := by
    have := DGet.k (k := (Sum.inr k : Key)) e
    rw [valV_getK] at this; exact this
  refine ⟨fun y hy => ?_, getK ks vs k, hg, ?_⟩
  · obtain ⟨v, hv, rv⟩ := a y hy
    rw [hv] at hg
    exact ⟨v, hg, rv⟩
  · rw [Bool.eq_iff_iff, decide_eq_true_iff]; exact getK_mem k l
theorem d_dget {k0 : Nat} (hr : Room k0 X.A) (ho : PD X (bs X CR E W) o wo) (hi : PD X (bs X CR E W) i wi) (hs : NoSl i := by intro _ _; rfl) : PD X (bs X CR E W) (.Subscript o i pos) (dDGet wo wi) := by
  refine (pe_dget (hu_of hr) ho hi hs).imp fun σ H Q h => ?_
  obtain ⟨P, δ, M, Qd, hS, g, x, w, k⟩ := h
  refine ⟨P, δ, M, _, hS, g, x, w, fun vo H1 ⟨d, M1, z1, g1, r1, q1⟩ => ⟨P, δ, M1, _, hS.mono z1, g1, x.trans z1, q1, fun vi H2 ⟨d2, M2, z2, g2, r2, p, ks, xs, j, y, eo, ei, em, hy, q⟩ => ?_⟩⟩
  subst eo; subst ei
  obtain ⟨v, hv, rv⟩ := (dget_of g2 em j).1 y hy
  rw [show vi = .str j from r2]
  exact ⟨p, v, r1, hv, k _ _ ⟨y, M2, z1.trans z2, g2, rv, q⟩⟩
def rInK (neg : Bool) : D2 := fun a b M Q => ∃ k p ks xs, a = .str k ∧ b = .ref p ∧ M p = some (.dic ks xs) ∧ Q (.bl (if neg then !decide (k ∈ ks) else decide (k ∈ ks))) M
theorem o_inK {k0 : Nat} (hr : Room k0 X.A) : OpR X (compareOp .In) (l2 X.K CR (rInK false)) := by
  intro pins s σ H x y v u Q I rx ry h
  obtain ⟨P, a, b, M, Qd, ra, rb, g, ⟨j, p, ks, xs, rfl, rfl, em, q⟩, kk⟩ := h
  obtain rfl : x = V.str j := ra
  obtain rfl : y = V.ref p := rb
  obtain rfl : u = Value.ref p := ry
  obtain ⟨r, hg, hs⟩ := (dget_of g em j).2
  refine d_in (hu_of hr) I hg rx fun s' I' => ?_
  rw [hs]
  exact ⟨.bl _, H, I', rfl, kk _ _ (lf_bl g q)⟩
theorem o_notInK {k0 : Nat} (hr : Room k0 X.A) : OpR X (compareOp .NotIn) (l2 X.K CR (rInK true)) := by
  intro pins s σ H x y v u Q I rx ry h
  obtain ⟨P, a, b, M, Qd, ra, rb, g, ⟨j, p, ks, xs, rfl, rfl, em, q⟩, kk⟩ := h
  obtain rfl : x = V.str j := ra
  obtain rfl : y = V.ref p := rb
  obtain rfl : u = Value.ref p := ry
  obtain ⟨r, hg, hs⟩ := (dget_of g em j).2
  refine d_notIn (hu_of hr) I hg rx fun s' I' => ?_
  rw [hs]
  exact ⟨.bl _, H, I', rfl, kk _ _ (lf_bl g q)⟩
/-- d[k] = v -/
def putD (ks : List Str) (xs : List D) (k : Str) (y : D) : MO := if k ∈ ks then .dic ks (setK ks xs k y) else .dic (ks ++ [k]) (xs ++ [y])
def dDPut (wo wi wv : DE) : DSt := fun D δ M => wv δ M fun y M1 => wo δ M1 fun o M2 => wi δ M2 fun j M3 => ∃ p ks xs k, o = .ref p ∧ j = .str k ∧ M3 p = some (.dic ks xs) ∧ ks.length < sizeLine ∧ D.nx δ (mput M3 p (putD ks xs k y))
theorem s_dput {k0 : Nat} (hr : Room k0 X.A) (ho : PD X (bs X CR E W) o wo) (hi : PD X (bs X CR E W) i wi) (hv : PD X (bs X CR E W) value wv) (hs : swapsWith value (some (.Subscript o i pos')) pos.line X.env = pure false := by rfl) : PDS X (bs X CR E W) (.Assign [.Subscript o i pos'] value pos) (dDPut wo wi wv) := by
  refine (ps_dput (hu_of hr) ho hi hv hs).imp fun Dn σ H h => ?_
  obtain ⟨P, δ, M, Dd, hS, g, x, w, k⟩ := h
  refine ⟨P, δ, M, _, hS, g, x, w, fun vy H1 ⟨y, M1, z1, g1, ry, q1⟩ => ⟨P, δ, M1, _, hS.mono z1, g1, x.trans z1, q1, fun vo H2 ⟨d2, M2, z2, g2, r2, q2⟩ => ⟨P, δ, M2, _, (hS.mono z1).mono z2, g2, (x.trans z1).trans z2, q2, fun vi H3 ⟨d3, M3, z3, g3, r3, p, ks, xs, j, eo, ei, em, hl, q⟩ => ?_⟩⟩⟩
  subst eo; subst ei
  obtain ⟨vs, e, l, rs⟩ := g3.at_ p _ em
  have e : H3 p = some (.dK (kvsOf ks vs)) := e
  rw [show vi = .str j from r3]
  have lk : (kvsOf ks vs).length = ks.length := by show ((ks.map Sum.inr).zip vs).length = _; rw [List.length_zip, List.length_map]; omega
  have hp := DPut.k (k := (Sum.inr j : Key)) (v := vy) e (by rw [lk]; exact hl)
  have ry3 := (ry.mono z2).mono z3
  refine ⟨p, _, (show vo = .ref p from r2), hp, ?_⟩
  have zz := (z1.trans z2).trans z3
  unfold putD at q
  by_cases hm : j ∈ ks
  · rw [if_pos hm] at q
    rw [putK_old j vy l hm]
    have z4 : Fz ⟨X.K, CR, P⟩ H3 M3 (upd H3 p (.dK (kvsOf ks (setK ks vs j vy)))) (mput M3 p (.dic ks (setK ks xs j y))) := fz_put g3 em
    exact k.nx σ _ ⟨δ, _, zz.trans z4, good_put g3 (g3.noP em) z4 ⟨_, upd_same, by rw [setK_len j vy l]; exact l, (reps_setK ry3 rs).mono z4⟩, (hS.mono zz).mono z4, q⟩
  · rw [if_neg hm] at q
    rw [putK_app j vy l hm]
    have z4 : Fz ⟨X.K, CR, P⟩ H3 M3 (upd H3 p (.dK (kvsOf (ks ++ [j]) (vs ++ [vy])))) (mput M3 p (.dic (ks ++ [j]) (xs ++ [y]))) := fz_put g3 em
    exact k.nx σ _ ⟨δ, _, zz.trans z4, good_put g3 (g3.noP em) z4 ⟨_, upd_same, by rw [List.length_append, List.length_append, l]; rfl, (rs.append (Reps.one ry3)).mono z4⟩, (hS.mono zz).mono z4, q⟩
/-- del d[k] -/
def dDDel (wo wi : DE) : DSt := fun D δ M => wo δ M fun o M1 => wi δ M1 fun j M2 => ∃ p ks xs k, o = .ref p ∧ j = .str k ∧ M2 p = some (.dic ks xs) ∧ k ∈ ks ∧ D.nx δ (mput M2 p (.dic (delK ks ks k) (delK ks xs k)))
theorem s_ddel (ho : PD X (bs X CR E W) o wo) (hi : PD X (bs X CR E W) i wi) : PDS X (bs X CR E W) (.Delete [.Subscript o i pos'] pos) (dDDel wo wi) := by
  refine (ps_ddel ho hi).imp fun Dn σ H h => ?_
  obtain ⟨P, δ, M, Dd, hS, g, x, w, k⟩ := h
  refine ⟨P, δ, M, _, hS, g, x, w, fun vo H1 ⟨d, M1, z1, g1, r1, q1⟩ => ⟨P, δ, M1, _, hS.mono z1, g1, x.trans z1, q1, fun vi H2 ⟨d2, M2, z2, g2, r2, p, ks, xs, j, eo, ei, em, hm, q⟩ => ?_⟩⟩
  subst eo; subst ei
  obtain ⟨vs, e, l, rs⟩ := g2.at_ p _ em
  have e : H2 p = some (.dK (kvsOf ks vs)) := e
  refine ⟨p, _, (Sum.inr j : Key), (show vo = .ref p from r1), e, (show vi = .str j from r2), by rw [valV_getK]; exact (getK_mem j l).mpr hm, ?_⟩
  obtain ⟨d1, d2⟩ := dropK_kvs j l
  rw [d1]
  have z4 : Fz ⟨X.K, CR, P⟩ H2 M2 (upd H2 p (.dK (kvsOf (delK ks ks j) (delK ks vs j)))) (mput M2 p (.dic (delK ks ks j) (delK ks xs j))) := fz_put g2 em
  exact k.nx σ _ ⟨δ, _, (z1.trans z2).trans z4, good_put g2 (g2.noP em) z4 ⟨_, upd_same, d2, (reps_delK rs).mono z4⟩, ((hS.mono z1).mono z2).mono z4, q⟩
/-- len(d), dict(d) -/
def rLenK : DC := fun ds M Q => ∃ p ks xs, ds = [.ref p] ∧ M p = some (.dic ks xs) ∧ Q (.int (ks.length : Int)) M
theorem c_lenK : CallR X (.builtin "len") (lC X.K CR rLenK) := call_lenD.imp fun xs H Q hh => by
  obtain ⟨P, ds, M, Qd, rs, gd, ⟨p, ks, ys, rfl, em, q⟩, k⟩ := hh
  obtain ⟨v, r, rfl, r1, r2⟩ := rs
  obtain ⟨vs, e, l, rs⟩ := gd.at_ p _ em
  rw [show r = [] from r2, show v = .ref p from r1]
  refine ⟨p, _, rfl, e, ?_⟩
  have lk : ((ks.map (Sum.inr : Str → Key)).zip vs).length = ks.length := by rw [List.length_zip, List.length_map]; omega
  rw [lk]
  exact k _ _ (lf_int gd q)
def rDictK : DC := fun ds M Q => ∃ p ks xs, ds = [.ref p] ∧ M p = some (.dic ks xs) ∧ ∀ a, M a = none → Q (.ref a) (mput M a (.dic ks xs))
theorem c_dictK : CallR X (.type "dict") (lC X.K CR rDictK) := call_dictD.imp fun xs H Q hh => by
  obtain ⟨P, ds, M, Qd, rs, gd, ⟨p, ks, ys, rfl, em, q⟩, k⟩ := hh
  obtain ⟨v, r, rfl, r1, r2⟩ := rs
  obtain ⟨vs, e, l, rs⟩ := gd.at_ p _ em
  rw [show r = [] from r2, show v = .ref p from r1]
  exact ⟨p, _, rfl, .inl e, fun a ha => k _ _ (newM (mo := .dic ks ys) gd ha (fun H' M' z e' => ⟨vs, e', l, rs.mono z⟩) (q a (gd.none ha).1))⟩
/-- del xs[i] -/
def dDelL (wo wi : DE) : DSt := fun D δ M => wo δ M fun o M1 => wi δ M1 fun j M2 => ∃ p xs n, o = .ref p ∧ j = .int ((n : Nat) : Int) ∧ M2 p = some (.lst xs) ∧ n < xs.length ∧ n < 1000000 ∧ D.nx δ (mput M2 p (.lst (xs.eraseIdx n)))
theorem s_delL (ho : PD X (bs X CR E W) o wo) (hi : PD X (bs X CR E W) i wi) : PDS X (bs X CR E W) (.Delete [.Subscript o i pos'] pos) (dDelL wo wi) := by
  refine (ps_delL ho hi).imp fun Dn σ H h => ?_
  obtain ⟨P, δ, M, Dd, hS, g, x, w, k⟩ := h
  refine ⟨P, δ, M, _, hS, g, x, w, fun vo H1 ⟨d, M1, z1, g1, r1, q1⟩ => ⟨P, δ, M1, _, hS.mono z1, g1, x.trans z1, q1, fun vi H2 ⟨d2, M2, z2, g2, r2, p, xs, n, eo, ei, em, hn, hb, q⟩ => ?_⟩⟩
  subst eo; subst ei
  obtain ⟨vs, e, rs⟩ := g2.at_ p _ em
  have hl : n < vs.length := by rw [← rs.length]; exact hn
  have hs : seqIndex? (n : Int) vs.length = some n := by
    have := PyProof.Rows.seqIndex_at (i := (n : Int)) (n := vs.length) (by omega) (by omega)
    rw [this, Int.toNat_natCast]
  have z4 : Fz ⟨X.K, CR, P⟩ H2 M2 (upd H2 p (.lst (vs.eraseIdx n))) (mput M2 p (.lst (xs.eraseIdx n))) := fz_put g2 em
  exact ⟨p, vs, (n : Int), n, (show vo = .ref p from r1), r2, e, by omega, by omega, hs, k.nx σ _ ⟨δ, _, (z1.trans z2).trans z4, good_put g2 (g2.noP em) z4 (show RepO _ _ _ p (.lst _) from ⟨_, upd_same, (reps_erase n rs).mono z4⟩), ((hS.mono z1).mono z2).mono z4, q⟩⟩
/-! ### order of texts -/
def rLtS : D2 := fun a b M Q => ∃ x y, a = .str x ∧ b = .str y ∧ Q (.bl (decide (x.cps.toList < y.cps.toList))) M
theorem o_ltS : OpR X (compareOp .Lt) (l2 X.K CR rLtS) := op_lt_str.imp fun x y H Q hh => by
  obtain ⟨P, a, b, M, Qd, ra, rb, gd, ⟨c, z, rfl, rfl, q⟩, k⟩ := hh
  exact ⟨c, z, ra, rb, k _ _ (lf_bl gd q)⟩
def rLeS : D2 := fun a b M Q => ∃ x y, a = .str x ∧ b = .str y ∧ Q (.bl (!decide (y.cps.toList < x.cps.toList))) M
theorem o_leS : OpR X (compareOp .LtE) (l2 X.K CR rLeS) := op_le_str.imp fun x y H Q hh => by
  obtain ⟨P, a, b, M, Qd, ra, rb, gd, ⟨c, z, rfl, rfl, q⟩, k⟩ := hh
  exact ⟨c, z, ra, rb, k _ _ (lf_bl gd q)⟩
/-! ### != of lists, one of them of the memory -/
def valM (d : D) (M : Mem) : D := match d with
  | .ref p => match M p with
    | some (.lst xs) => .lst xs
    | _ => .ref p
  | d => d
theorem dp_valM {O : Own} {H M} {d : D} {v : V} {n : Nat} (g : Good O H M) (h : plD (valM d M) n = true) (r : Rep O H M d v) : Dp O.K H v (datD (valM d M)) := by
  unfold valM at h ⊢
  split at h
  · rename_i p
    split at h
    · rename_i xs em
      obtain ⟨vs, e, rs⟩ := g.at_ p _ em
      rw [show v = .ref p from r]
      cases n with
      | zero => cases h
      | succ n => exact .lst (.of e) (dps_of (n := n) h rs)
    · cases n <;> cases h
  · exact dp_of h r
def rNeM : D2 := fun a b M Q => plD (valM a M) 8 = true ∧ plD (valM b M) 8 = true ∧ ∀ k : Bool, (k = true ↔ valM a M ≠ valM b M) → Q (.bl k) M
theorem o_neM (hu : X.A.units + 64 < cLine) : OpR X (compareOp .NotEq) (l2 X.K CR rNeM) := (op_neD hu).imp fun x y H Q hh => by
  obtain ⟨P, a, b, M, Qd, ra, rb, gd, ⟨p1, p2, q⟩, k⟩ := hh
  refine ⟨_, _, dp_valM gd p1 ra, dp_valM gd p2 rb, shaped_of p1, shaped_of p2, k _ _ (lf_bl gd (q _ ?_))⟩
  have := eqv_iff p1 p2
  rw [Bool.not_eq_true', ← Bool.not_eq_true, this]
end
/-! ### list.remove of a text -/
def ansS : Ans := fun a b => match a, b with
  | .str x, .str y => some (decide (x = y))
  | _, _ => none
theorem eqOk_str {X : Cx} {CR : Addr} {k : Nat} : EqOk X CR k ansS := fun A pins s σ H P M a b x y u v r sb I ru rv g ra rb h => by
  unfold ansS at h
  split at h
  · rename_i z z'
    cases h
    rw [show x = .str z from ra] at ru
    rw [show y = .str z' from rb] at rv
    obtain ⟨t, rfl⟩ := ru
    obtain ⟨t', rfl⟩ := rv
    exact wpAny_eqBool_str ⟨rfl, H, I, Fz.refl, g⟩
  · cases h
/-! ### t[::-1] -/
section
variable {prog : Program} {w : World} {A : Around} {E : Value → Shared → Prop} {s : Shared}
theorem adjust_rev (n : Nat) : Builtin.Slice.sliceAdjust none none (-1) (n : Int) = ((n : Int) - 1, -1) := rfl
theorem places_rev (n : Nat) : Builtin.Slice.slicePlaces ((n : Int) - 1) (-1) (-1) = n := by
  unfold Builtin.Slice.slicePlaces
  rw [if_neg (by decide)]
  by_cases h : n = 0
  · subst h; rfl
  · rw [if_pos (by omega)]
    have : ((n : Int) - 1 - -1 - 1) / - -1 + 1 = n := by
      show ((n : Int) - 1 - -1 - 1) / 1 + 1 = n
      rw [Int.ediv_one]; omega
    rw [this]; exact Int.toNat_natCast n
theorem sliceApplied_rev {sl : Addr} {t : Tok} {n : Nat} {Q : Int × Int × Nat → Shared → Prop} (hs : s.heap.IsSliceOf sl .none .none (.int (-1) t)) (h : Q ((n : Int) - 1, -1, n) s) : wpAny (model prog w) A (Builtin.Slice.sliceApplied (.ref sl) (pure (n : Int))) Q E s := by
  obtain ⟨os, hos, hcs, hds⟩ := id hs
  unfold Builtin.Slice.sliceApplied Builtin.Slice.sliceFields
  refine wpAny_bind (wpAny_bind (wpAny_field hos hds (x := .none) rfl (wpAny_bind (wpAny_field hos hds (x := .none) rfl (wpAny_bind (wpAny_field hos hds (x := .int (-1) t) rfl (wpAny_pure ?_)))))))
  refine wpAny_bind (PyProof.Rows.slicePart_int ?_)
  show wpAny _ _ (if ((-1 : Int) == 0) = true then _ else _) _ _ s
  rw [if_neg (by decide)]
  refine wpAny_bind (PyProof.Rows.slicePart_none (wpAny_bind (PyProof.Rows.slicePart_none (wpAny_bind (wpAny_pure ?_)))))
  show wpAny _ _ (match Builtin.Slice.sliceAdjust none none (-1) (n : Int) with | (lo, hi) => pure (lo, (-1 : Int), Builtin.Slice.slicePlaces lo hi (-1))) _ _ s
  rw [adjust_rev]
  show wpAny _ _ (pure ((n : Int) - 1, (-1 : Int), Builtin.Slice.slicePlaces ((n : Int) - 1) (-1) (-1))) _ _ s
  rw [places_rev]
  exact wpAny_pure h
theorem fm_congr {α β : Type} {f g : α → Option β} : ∀ {l : List α}, (∀ x, x ∈ l → f x = g x) → l.filterMap f = l.filterMap g
  | [], _ => rfl
  | x :: l, h => by
    rw [List.filterMap_cons, List.filterMap_cons, h x List.mem_cons_self, fm_congr fun y hy => h y (List.mem_cons_of_mem _ hy)]
theorem pick_rev (xs : Array Value) : ((List.range xs.size).filterMap fun (m : Nat) => xs[((xs.size : Int) - 1 + (m : Int) * -1).toNat]?).toArray = xs.toList.reverse.toArray := by
  have := HT.pick_gen xs.toList.reverse.toArray 0 xs.size
  rw [show (((xs.toList.reverse.toArray).toList.drop 0).take xs.size) = xs.toList.reverse from List.take_of_length_le (by simp)] at this
  rw [← this]
  congr 1
  refine fm_congr fun m hm => ?_
  have hm := List.mem_range.mp hm
  have e1 : ((xs.size : Int) - 1 + (m : Int) * -1).toNat = xs.size - 1 - m := by omega
  have e2 : (((0 : Nat) : Int) + (m : Int) * 1).toNat = m := by omega
  rw [e1, e2]
  have hv : xs.toList.length - 1 - m < xs.toList.length := by rw [Array.length_toList]; omega
  have h1 : xs[xs.size - 1 - m]? = some (xs.toList[xs.toList.length - 1 - m]'hv) := by
    rw [Array.getElem?_eq_getElem (by omega)]; simp
  have h2 : (xs.toList.reverse.toArray)[m]? = some (xs.toList[xs.toList.length - 1 - m]'hv) := by
    rw [Array.getElem?_eq_getElem (by simpa using hm)]; simp [List.getElem_reverse]
  rw [h1, h2]
theorem getItem_tuple_rev {t sl : Addr} {items : Array Value} {tk : Tok} {Q : Value → Shared → Prop} (ht : IsTup s.heap t items) (hs : s.heap.IsSliceOf sl .none .none (.int (-1) tk))
    (h : Q (.ref s.heap.objs.size) { s with heap := s.heap.push { cls := .type "tuple", data := .seq items.toList.reverse.toArray } }) (hsz : items.size ≤ sizeLine) : wpAny (model prog w) A (getItem (.ref t) (.ref sl)) Q E s := by
  have htake : sizeOk (.seq items.toList.reverse.toArray) := by
    show items.toList.reverse.toArray.size ≤ sizeLine
    rw [List.size_toArray, List.length_reverse, Array.length_toList]; exact hsz
  obtain ⟨os, hos, hcs, hds⟩ := id hs
  have hTs : s.TypeIs (.ref sl) "slice" := ⟨os, hos, hcs⟩
  unfold getItem
  try with_reducible refine wpAny_holding ?_
  first | refine wpAny_bind (wpAny_pure ?_) | skip
  refine wpAny_bind (wpAny_sequenceKey ht.typeIs (by decide) ?_)
  refine wpAny_bind (wpAny_callSpecial?_slot (name := Str.ofString "__getitem__") ht.typeIs PyProof.Rows.slot_tuple_getitem
    (wpAny_call_entry PyProof.Rows.slot_tuple_getitem ht.typeIs entry_tuple_getitem ?_ (args_tuple_getitem _ _)))
  show wpAny _ _ (Builtin.Tuple.tupleItemsOf (.ref t) >>= _) _ _ s
  refine wpAny_bind (tupleItemsOf_ ht ?_)
  refine wpAny_bind (wpAny_typeOf hTs ?_)
  rw [if_pos (by decide)]
  refine wpAny_bind (sliceApplied_rev hs ?_)
  have hno : ¬ ((((items.size : Int) - 1) == 0 && (-1 : Int) == 1 && items.size == items.size) = true) := by
    intro q
    rw [Bool.and_eq_true, Bool.and_eq_true] at q
    exact absurd q.1.2 (by decide)
  show wpAny _ _ (if (((items.size : Int) - 1) == 0 && (-1 : Int) == 1 && items.size == items.size) = true then _ else _) _ _ s
  rw [if_neg hno, pick_rev]
  first
    | exact wpAny_bind (m := Builtin.Tuple.tupleExact _) (wpAny_newObj_type (wpAny_pure ⟨_, rfl, wpAny_pure h⟩) htake)
    | exact wpAny_bind (m := Builtin.Tuple.tupleExact _) (wpAny_newObj_type (wpAny_bind (wpAny_pure (wpAny_pure ⟨_, rfl, wpAny_pure h⟩))) htake)
    | exact wpAny_bind (wpAny_bind (m := Builtin.Tuple.tupleExact _) (wpAny_newObj_type (wpAny_pure (wpAny_pure ⟨_, rfl, wpAny_pure h⟩)) htake))
    | exact wpAny_bind (wpAny_bind (m := Builtin.Tuple.tupleExact _) (wpAny_newObj_type (wpAny_pure ⟨_, rfl, wpAny_pure h⟩) htake))
end
section
variable {X : Cx} {CR : Addr} {E : DXS} {W : WX} {pos p2 : Pos} {e st : Expr} {w ws : DE}
def dRev (w ws : DE) : DE := fun δ M Q => w δ M fun d M1 => ws δ M1 fun k M2 => k = .int (-1) ∧ ∃ xs, d = .tup xs ∧ Q (.tup xs.reverse) M2
theorem reps_rev {O : Own} {H M} : ∀ {ds : List D} {vs : List V}, Reps O H M ds vs → Reps O H M ds.reverse vs.reverse
  | [], vs, h => by rw [show vs = [] from h]; exact rfl
  | d :: ds, vs, h => by
    obtain ⟨v, us, rfl, r1, r2⟩ := h
    rw [List.reverse_cons, List.reverse_cons]
    exact (reps_rev r2).append (Reps.one r1)
theorem d_rev (he : PD X (bs X CR E W) e w) (hst : PD X (bs X CR E W) st ws) : PD X (bs X CR E W) (.Subscript e (.Slice none none (some st) p2) pos) (dRev w ws) := by
  refine ⟨fun pins s σ H Q I h => ?_⟩
  obtain ⟨P, δ, M, Qd, hS, g, x, w, k⟩ := h
  refine Subscript_ (thn (he.run pins s σ H (fun v H' => LfV ⟨X.K, CR, P⟩ H M _ v H') I ⟨P, δ, M, _, hS, g, x, w, fun _ _ l => l⟩) fun u s1 ⟨y, H1, I1, ry, d, M1, z1, g1, r1, q1⟩ => ?_)
  refine wpAny_Slice (wpAny_pure (wpAny_pure (thn (hst.run pins s1 σ H1 (fun v H' => LfV ⟨X.K, CR, P⟩ H1 M1 _ v H') I1 ⟨P, δ, M1, _, hS.mono z1, g1, x.trans z1, q1, fun _ _ l => l⟩) fun u2 s2 ⟨y2, H2, I2, ry2, d2, M2, z2, g2, r2, ek, xs, ed, q2⟩ => ?_)))
  subst ek; subst ed
  have r1' := r1.mono z2
  obtain ⟨a, vs, ey, f, rs⟩ := r1'
  subst ey
  obtain rfl : u = Value.ref a := ry
  obtain ⟨tk, rfl⟩ : ∃ tk, u2 = Value.int (-1) tk := by
    rw [show y2 = .int (-1) from r2] at ry2
    exact ry2
  have I4 : Inv X pins σ H2 { s2 with heap := s2.heap.push { cls := .type "slice", data := .fields #[.none, .none, .int (-1) tk] } } := I2.kept (t' := s2.toks) fun b ob q => Heap.get?_push_of_some _ q
  obtain ⟨its, r, ht, hz⟩ := I4.tuple f.sq
  have hlen : its.toArray.size = vs.length := by rw [List.size_toArray]; exact r.length.symm
  show wpAny (model X.prog X.w) X.A (subscriptTail e (.Slice none none (some st) p2) (.ref a) (.ref s2.heap.objs.size)) (EP X pins σ Q) X.xe { s2 with heap := s2.heap.push { cls := .type "slice", data := .fields #[.none, .none, .int (-1) tk] } }
  refine tail_any (ops := [.ref a, .ref s2.heap.objs.size]) ht.typeIs PyProof.Rows.slot_tuple_getitem.lookup (getItem_tuple_rev ht (Heap.IsSliceOf.new ..) ?_ (by rw [hlen]; exact hz)) (by with_unfolding_all rfl)
  have hn := I4.hok.fresh (Nat.le_refl _)
  refine ⟨.ref _, _, I4.laid (t' := s2.toks) (o := .frz { cls := .type "tuple", data := .seq its.reverse.toArray } (.tup vs.reverse)) (fun b ob q => Heap.get?_push_of_some _ q) (Nat.le_refl _) ?_, rfl, k _ _ ((newT (o := { cls := .type "tuple", data := .seq its.reverse.toArray }) g2 hn rfl (reps_rev rs) q2).trans (z1.trans z2))⟩
  have rv : Vals vs.reverse its.reverse := r.reverse
  refine ⟨Heap.get?_push_size _ rfl, by rw [List.length_reverse]; exact hz, _, rv, ?_⟩
  exact IsTup.new _ _
end
/-! ### a def's call that may raise -/
section
variable {X : Cx} {CR : Addr} {E : DXS} {W : WX} {pos p : Pos} {k : Nat} {x : Str} {ps : List Str} {sp : DSp} {e : Expr} {es : List Expr} {t : DA}
theorem d_callX (F : Def X.prog X.w X.K X.mg X.base CR k x ps sp) (tk : Takes X W) (hr : Room k X.A) (ha : PDA X (bs X CR E W) (e :: es) t) (hg : Gl X x := by rfl)
    (hdb : (x == ("__debug__" : Str)) = false := by decide) (he : starEach (e :: es) X.env = (false, eval e X.env) :: starEach es X.env := by rfl) (hpl : (backTo pos (starEach es X.env)).any (·.1) = false := by rfl) : PD X (bs X CR E W) (.Call (.Name x p) (e :: es) [] pos) (dCallX sp E t) := by
  obtain ⟨f, fd, F, hm, hk, hb⟩ := F.ex
  refine ⟨fun pins s σ H Q I h => ?_⟩
  obtain ⟨P, δ, M, Qd, hS, g, xl, w, kk⟩ := h
  refine wpAny_Call_Name_kw (ld_glob I hg hm ?_ hdb)
  refine PySem.W.callWith_K (first := []) (h₀ := X.base) I.ok.mod.kin hk (thn (ha.run pos pins _ σ H (fun vs H2 => ∃ ds M2, Fz ⟨X.K, CR, P⟩ H M H2 M2 ∧ Good ⟨X.K, CR, P⟩ H2 M2 ∧ Reps ⟨X.K, CR, P⟩ H2 M2 ds vs ∧ sp ds M2 Qd fun C ns fs M' => E C ns fs δ M') I ⟨P, δ, M, _, hS, g, xl, w, fun vs H2 ds M2 z2 g2 rs q2 => ⟨ds, M2, z2, g2, rs, q2⟩⟩) fun us s2 ⟨vs, H2, I2, r, ds, M2, z2, g2, rs, q2⟩ => ⟨I2.kIn, ?_⟩) he hpl
  refine run_fnS (E := fun σ c d H' => W c d σ H') (us := us) (vs := vs) F hr hb (passAt tk σ) I2 r ?_
  exact ⟨P, ds, M2, Qd, _, rs, g2, q2, fun v H' l => kk v H' (l.trans z2), lfx_w (hS.mono z2) (xl.trans z2)⟩
/-- x not in [..] of plain data -/
def rNotInP : D2 := fun a b M Q => ∃ ds : List D, b = .lst ds ∧ plD a 8 = true ∧ plD b 8 = true ∧ ∀ k : Bool, (k = true ↔ a ∉ ds) → Q (.bl k) M
theorem o_notInP (hu : X.A.units + 65 < cLine) : OpR X (compareOp .NotIn) (l2 X.K CR rNotInP) := (op_notInD hu).imp fun x y H Q hh => by
  obtain ⟨P, a, b, M, Qd, ra, rb, gd, ⟨ds, rfl, pa, pb, q⟩, k⟩ := hh
  refine ⟨_, _, dp_of pa ra, dp_of pb rb, shaped_of pa, shaped_of pb, k _ _ (lf_bl gd (q _ ?_))⟩
  have := any_eqv (n := 7) (ds := ds) pa pb
  rw [Bool.not_eq_true', ← Bool.not_eq_true, this]
end
/-! ### the addresses of a survey's classes -/
structure Ad where
  bk : Addr
  rd : Addr
  dup : Addr
  badr : Addr
  up : Addr
  ur : Addr
  lim : Addr
/-- what the text holds of them -/
structure BkT (K : PySem.W.Frag) (AD : Ad) : Prop where
  rc : Cls K AD.rd
  bc : Cls K AD.bk
  name : NoAttr K AD.rd "name"
  terms : NoAttr K AD.rd "terms"
  value : NoAttr K AD.rd "value"
  weight : NoAttr K AD.rd "weight"
  points : NoAttr K AD.bk "points"
  approximations : NoAttr K AD.bk "approximations"
  readings : NoAttr K AD.bk "readings"
structure EkT (P : Program) (w : World) (K : PySem.W.Frag) (mg : Str → Option Value) (base : Heap) (AD : Ad) : Prop where
  dup : ErrT P w K mg base "DuplicateName" AD.dup "name"
  badr : ErrT P w K mg base "BadReading" AD.badr "reason"
  up : ErrT P w K mg base "UnknownPoint" AD.up "name"
  ur : ErrT P w K mg base "UnknownReading" AD.ur "name"
  lim : ErrT P w K mg base "LimitReached" AD.lim "what"
/-! ### the errors are not one another's -/
def Ad.errs (AD : Ad) : List Addr := [AD.dup, AD.badr, AD.up, AD.ur, AD.lim]
structure ApT (K : PySem.W.Frag) (AD : Ad) : Prop where
  ap : ∀ c c', c ∈ AD.errs → c' ∈ AD.errs → PySem.W.exmOne K (.ref c) (.ref c') = some (decide (c = c'))
  nd : AD.errs.Nodup
theorem ApT.apart {K : PySem.W.Frag} {AD : Ad} {hs : List Hd} (h : ApT K AD) (e : hs.map Hd.C = AD.errs) : Apart K hs := fun a b ha hb => h.ap _ _ (by rw [← e]; exact List.mem_map_of_mem ha) (by rw [← e]; exact List.mem_map_of_mem hb)
theorem one_of {f : Hd → Str} : ∀ {hs : List Hd}, (hs.map Hd.C).Nodup → ∀ h h', h ∈ hs → h' ∈ hs → h.C = h'.C → f h = f h'
  | [], _, _, _, m, _, _ => nomatch m
  | x :: hs, n, a, b, ma, mb, e => by
    obtain ⟨n1, n2⟩ := List.nodup_cons.mp n
    rcases List.mem_cons.mp ma with ea | ma
    · rcases List.mem_cons.mp mb with eb | mb
      · rw [ea, eb]
      · exact absurd (by rw [← ea, e]; exact List.mem_map_of_mem mb) n1
    · rcases List.mem_cons.mp mb with eb | mb
      · exact absurd (by rw [← eb, ← e]; exact List.mem_map_of_mem ma) n1
      · exact one_of n2 a b ma mb e
def adOf (K : PySem.W.Frag) : Ad := ⟨He.ga K "Book", He.ga K "Reading", He.ga K "DuplicateName", He.ga K "BadReading", He.ga K "UnknownPoint", He.ga K "UnknownReading", He.ga K "LimitReached"⟩
theorem nodup_map_of {α β : Type} {f : α → β} : ∀ {l : List α}, (∀ a b, a ∈ l → b ∈ l → f a = f b → a = b) → l.Nodup → (l.map f).Nodup
  | [], _, _ => List.nodup_nil
  | a :: l, h, n => by
    obtain ⟨n1, n2⟩ := List.nodup_cons.mp n
    refine List.nodup_cons.mpr ⟨fun m => ?_, nodup_map_of (fun x y hx hy => h x y (List.mem_cons_of_mem _ hx) (List.mem_cons_of_mem _ hy)) n2⟩
    obtain ⟨b, hb, e⟩ := List.mem_map.mp m
    exact n1 (by rw [← h b a (List.mem_cons_of_mem _ hb) List.mem_cons_self e]; exact hb)
theorem apB_ok {K : PySem.W.Frag} (h : apB K errNames = true) : ApT K (adOf K) := by
  have e0 : (adOf K).errs = errNames.map (He.ga K) := rfl
  have h1 : ∀ a b, a ∈ errNames → b ∈ errNames → PySem.W.exmOne K (.ref (He.ga K a)) (.ref (He.ga K b)) = some (decide (a = b)) := fun a b ha hb => of_decide_eq_true (List.all_eq_true.mp (List.all_eq_true.mp h a ha) b hb)
  have inj : ∀ a b, a ∈ errNames → b ∈ errNames → He.ga K a = He.ga K b → a = b := fun a b ha hb e => by
    have := h1 a b ha hb
    rw [e, h1 b b hb hb] at this
    exact of_decide_eq_true ((Option.some.inj this).symm.trans (decide_eq_true rfl))
  refine ⟨fun c c' hc hc' => ?_, ?_⟩
  · rw [e0] at hc hc'
    obtain ⟨a, ha, rfl⟩ := List.mem_map.mp hc
    obtain ⟨b, hb, rfl⟩ := List.mem_map.mp hc'
    rw [h1 a b ha hb]
    congr 1
    rw [Bool.eq_iff_iff, decide_eq_true_iff, decide_eq_true_iff]
    exact ⟨fun e => by rw [e], inj a b ha hb⟩
  · rw [e0]; exact nodup_map_of inj (by decide)
/-! ### makers -/
theorem mkC_of {P : Program} {w : World} {K : PySem.W.Frag} {mg : Str → Option Value} {base : Heap} {CR C f : Addr} {k : Nat} {fd : FuncData} {x qual cx : Str} {st : Stmt} {sp : DSp} {ps : List Str} (F : FunD K x qual (defArgs st) (defBody st) (defScope st) [] [] f fd) (g : mg cx = some (.ref C)) (m : Mk K C f) (ok : FnOk P w K mg base (L2.CX P w) k f fd ps (lSp K CR sp))
    (h : ∀ (kV doc pm : Value) (an : Option Addr) (cdv ct : Value) (us : List Value), us.length = ps.length → bindArgs (PySem.W.fnOf x qual (defArgs st) (defBody st) (defScope st) .none kV doc pm an cdv ct) ⟨us, []⟩ = pure (ps.zip us)) : MkC P w K mg base CR k cx C ps sp := ⟨g, f, fd, m, ok, F.bindsN h⟩
theorem methC_of {P : Program} {w : World} {K : PySem.W.Frag} {mg : Str → Option Value} {base : Heap} {CR C f : Addr} {k : Nat} {fd : FuncData} {x qual name : Str} {st : Stmt} {sp : DSp} {ps : List Str} (F : FunD K x qual (defArgs st) (defBody st) (defScope st) [] [] f fd) (c : Cls K C) (m : Meth K C name f) (ok : FnOk P w K mg base (L2.CX P w) k f fd ps (lSp K CR sp))
    (h : ∀ (kV doc pm : Value) (an : Option Addr) (cdv ct : Value) (us : List Value), us.length = ps.length → bindArgs (PySem.W.fnOf x qual (defArgs st) (defBody st) (defScope st) .none kV doc pm an cdv ct) ⟨us, []⟩ = pure (ps.zip us)) : MethC P w K mg base CR k C name ps sp := ⟨c, f, fd, ok, F.bindsN h, m⟩
/-! ### dict of a tuple of pairs; get; extend; sum; methods without arguments -/
def pairT (p : Str × D) : D := .tup [.str p.1, p.2]
theorem pairs_at {O : Own} {H M} : ∀ {t : List (Str × D)} {vs : List V}, Reps O H M (t.map pairT) vs → ∃ (as : List Addr) (ws : List V), vs = as.map V.ref ∧ Paired (fun p (kv : Key × V) => SqT O.K H p [kV kv.1, kv.2]) as (kvsOf (t.map Prod.fst) ws) ∧ Reps O H M (t.map Prod.snd) ws ∧ as.length = t.length ∧ ws.length = t.length
  | [], vs, r => ⟨[], [], r, .nil, rfl, rfl, rfl⟩
  | x :: t, vs, r => by
    obtain ⟨v, us, rfl, ⟨a, zs, rfl, f, z1, r1, rfl, e1, z2, r2, rfl, e2, e3⟩, h2⟩ := r
    rw [show r2 = [] from e3] at f
    rw [show z1 = .str x.1 from e1] at f
    obtain ⟨as, ws, rfl, p, rs, l1, l2⟩ := pairs_at h2
    exact ⟨a :: as, z2 :: ws, rfl, .cons f.sq p, ⟨z2, ws, rfl, e2, rs⟩, by rw [List.length_cons, List.length_cons, l1], by rw [List.length_cons, List.length_cons, l2]⟩
theorem prsV_at {X : Cx} {pins : List (Addr × Obj)} {σ : L2.St} {H : Hp} {s : Shared} (I : Inv X pins σ H s) : ∀ {ps : List Addr} {kvs : List (Key × V)}, Paired (fun p kv => SqT X.K H p [kV kv.1, kv.2]) ps kvs →
    ∃ (prs : List (Key × Value)) (us : List Value), KV kvs prs ∧ prs.length = ps.length ∧ us.length = ps.length ∧ ∀ (j : Nat) (b : Addr) (q : Key × Value) (u : Value), ps[j]? = some b → prs[j]? = some q → us[j]? = some u → IsTup s.heap b #[u, q.2] ∧ keyIs q.1 u = true
  | _, _, .nil => ⟨[], [], .nil, rfl, rfl, fun j b q u e => by simp at e⟩
  | _, _, .cons (a := p) (b := kv) h t => by
    obtain ⟨prs, us, r, hl, hl2, hp⟩ := prsV_at I t
    obtain ⟨its, rv, ht, _⟩ := I.tuple h
    obtain ⟨u, y, ei, ru, ry⟩ := vals2 rv
    subst ei
    refine ⟨(kv.1, y) :: prs, u :: us, .cons ⟨rfl, ry⟩ r, by rw [List.length_cons, List.length_cons, hl], by rw [List.length_cons, List.length_cons, hl2], fun j b q u' e1 e2 e3 => ?_⟩
    cases j with
    | zero =>
      cases e1; cases e2; cases e3
      exact ⟨ht, kV_is (P := X.prog) (w := X.w) ru⟩
    | succ j => exact hp j b q u' (by simpa using e1) (by simpa using e2) (by simpa using e3)
section
variable {X : Cx} {CR : Addr} {E : DXS} {W : WX} {pos cpos apos : Pos} {o e f : Expr} {w wo we wf : DE} {t : DA}
def rDictT : DC := fun ds M Q => ∃ t : List (Str × D), ds = [.tup (t.map pairT)] ∧ (t.map Prod.fst).Nodup ∧ ∀ a, M a = none → Q (.ref a) (mput M a (.dic (t.map Prod.fst) (t.map Prod.snd)))
theorem c_dictT (hc : X.calm = true) : CallR X (.type "dict") (lC X.K CR rDictT) := by
  intro pins s σ H xs us Q I r h
  obtain ⟨P, ds, M, Qd, rs, g, ⟨t, rfl, nd, q⟩, k⟩ := h
  obtain ⟨v, r', rfl, ⟨a, vs, rfl, f, rps⟩, e0⟩ := rs
  rw [show r' = [] from e0] at r
  obtain ⟨u, rfl, ru⟩ := vals1 r
  cases ru
  obtain ⟨fr, ob, to_, ea⟩ := f
  obtain ⟨hg, hz, its, rv, o', ho', hc', n, hd'⟩ := (show ObjOk X.prog X.w H s.heap a (.frz ob (.tup vs)) from I.hok a _ ea)
  rw [hg] at ho'; cases ho'
  obtain ⟨as, ws, rfl, pr, rws, l1, l2⟩ := pairs_at rps
  obtain ⟨prs, uus, kv, hl, hl2, hp⟩ := prsV_at I pr
  have ei := refs_at rv
  subst ei
  have pl : PySem.PlainSeq "tuple" s.heap a (as.map Value.ref).toArray := ⟨ob, n, hg, hc', to_, hd'⟩
  let pps : List (Value × Value) := uus.zip (prs.map (·.2))
  have hlen : pps.length = as.length := by show (uus.zip (prs.map (·.2))).length = _; rw [List.length_zip, List.length_map]; omega
  have at_ : ∀ (j : Nat) k v, pps[j]? = some (k, v) → ∃ b q, as[j]? = some b ∧ prs[j]? = some q ∧ q.2 = v ∧ IsTup s.heap b #[k, v] ∧ keyIs q.1 k = true := fun j k v e => by
    have hj : j < pps.length := (List.getElem?_eq_some_iff.mp e).1
    have hb : as[j]? = some as[j] := List.getElem?_eq_getElem (by omega)
    have hq : prs[j]? = some prs[j] := List.getElem?_eq_getElem (by omega)
    have e' : (uus.zip (prs.map (·.2)))[j]? = some (k, v) := e
    rw [List.getElem?_zip_eq_some] at e'
    obtain ⟨e1, e2⟩ := e'
    rw [List.getElem?_map, hq] at e2
    have e2 : prs[j].2 = v := Option.some.inj e2
    obtain ⟨z1, z2⟩ := hp j _ _ _ hb hq e1
    rw [e2] at z1
    exact ⟨_, _, hb, hq, e2, z1, z2⟩
  have okI : PySem.PairItems s.heap (as.map Value.ref).toArray (fun j => as[j]?.getD 0) pps := by
    refine ⟨by rw [List.size_toArray, List.length_map, hlen], fun j k v e => ?_⟩
    obtain ⟨b, q', hb, _, _, z1, _⟩ := at_ j k v e
    have eb : as[j]?.getD 0 = b := by rw [hb]; rfl
    refine ⟨?_, .inl ?_⟩
    · rw [List.getElem?_toArray, List.getElem?_map, hb]
      show some (Value.ref b) = some (Value.ref (as[j]?.getD 0))
      rw [eb]
    · show s.heap.IsTuple (as[j]?.getD 0) #[k, v]
      rw [eb]; exact z1
  refine PySem.call_dict_pairs (knd := mixKind X.prog X.w) (kvs := prs) (PySem.PairArg.tuple (prog := X.prog) (w := X.w) a _ (fun j => as[j]?.getD 0) pps) (I.ok.hd hc) ⟨pl, okI⟩ ⟨by rw [hlen, hl], fun i key v e => ?_⟩ (by rw [hlen, l1]; have := rps.length; rw [List.length_map] at this hz; omega) fun h' tk hd2 kp => ?_
  · obtain ⟨b, q', _, hq, e2, _, z2⟩ := at_ i key v e
    exact ⟨q'.1, by rw [hq, ← e2], z2⟩
  · have hm : (s.heap.objs.size == sysModules) = false := beq_eq_false_iff_ne.mpr (Nat.ne_of_gt I.big)
    have lk : (t.map Prod.fst).length = ws.length := by rw [List.length_map, l2]
    have em : mergeK [] (kvsOf (t.map Prod.fst) ws) = kvsOf (t.map Prod.fst) ws := by rw [mergeK_of _ _ [] lk nd (fun k _ => rfl), List.nil_append]
    have hlk : (kvsOf (t.map Prod.fst) ws).length ≤ sizeLine := by
      show (((t.map Prod.fst).map Sum.inr).zip ws).length ≤ _
      rw [List.length_zip, List.length_map, List.length_map]
      rw [List.length_map] at hz
      omega
    have hf := I.hok.fresh (Nat.le_refl s.heap.objs.size)
    refine ⟨.ref s.heap.objs.size, upd H s.heap.objs.size (.dK (kvsOf (t.map Prod.fst) ws)), I.laid (t' := tk) (fun b o e => kp b o (by simp) e) (Nat.le_refl _) (show ObjOk X.prog X.w _ _ _ (.dK (kvsOf (t.map Prod.fst) ws)) from ⟨hlk, hm, merged [] prs, by rw [← em]; exact KV.merge kv .nil, hd2⟩), rfl, k _ _ (newM (mo := .dic _ _) g hf (fun H' M' z e' => ⟨ws, e', lk, rws.mono z⟩) (q _ (g.none hf).1))⟩
/-- d.get(k, z) -/
def dDGet2 (wo we wf : DE) : DE := fun δ M Q => wo δ M fun d M1 => (∃ p ks xs, d = .ref p ∧ M1 p = some (.dic ks xs)) ∧ we δ M1 fun k M2 => wf δ M2 fun z M3 => ∃ p ks xs j, d = .ref p ∧ k = .str j ∧ M3 p = some (.dic ks xs) ∧ Q ((getK ks xs j).getD z) M3
theorem d_dget2 {k0 : Nat} (hr : Room k0 X.A) (ho : PD X (bs X CR E W) o wo) (he : PD X (bs X CR E W) e we) (hf : PD X (bs X CR E W) f wf) (m : M2 X o "get" apos e f cpos := by exact ⟨rfl, rfl, rfl, rfl⟩) : PD X (bs X CR E W) (.Call (.Attribute o "get" apos) [e, f] [] cpos) (dDGet2 wo we wf) := by
  refine (pe_dget2 (hu_of hr) ho he hf m).imp fun σ H Q h => ?_
  obtain ⟨P, δ, M, Qd, hS, g, x, w, k⟩ := h
  refine ⟨P, δ, M, _, hS, g, x, w, fun vo H1 ⟨d, M1, z1, g1, r1, ⟨p, ks, xs, ed, em⟩, q1⟩ => ?_⟩
  subst ed
  obtain ⟨vs, e1, _, _⟩ := g1.at_ p _ em
  refine ⟨p, r1, .inl ⟨_, .inl e1⟩, P, δ, M1, _, hS.mono z1, g1, x.trans z1, q1, fun vk H2 ⟨d2, M2, z2, g2, r2, q2⟩ => ⟨P, δ, M2, _, (hS.mono z1).mono z2, g2, (x.trans z1).trans z2, q2, fun vz H3 ⟨d3, M3, z3, g3, r3, p', ks', xs', j, ep, ek, em', q⟩ => ?_⟩⟩
  cases ep; subst ek
  rw [show vk = .str j from r2]
  obtain ⟨vs', e3, l, rs⟩ := g3.at_ p _ em'
  have e3 : H3 p = some (.dK (kvsOf ks' vs')) := e3
  have hg : DGet H3 p (.str j) (getK ks' vs' j) := by
    have := DGet.k (k := (Sum.inr j : Key)) e3
    rw [valV_getK] at this; exact this
  refine ⟨_, hg, k _ _ ⟨_, M3, (z1.trans z2).trans z3, g3, ?_, q⟩⟩
  obtain ⟨a, b⟩ := getK_rep j (ks := ks') rs
  cases hk : getK ks' xs' j with
  | some y =>
    obtain ⟨v, hv, rv⟩ := a y hk
    rw [hv]; exact rv
  | none => rw [b hk]; exact r3
/-- xs.extend(ys) -/
def dExt (w : DE) (t : DA) : DE := fun δ M Q => w δ M fun o M1 => isLstD o M1 ∧ t δ M1 fun ds M2 => ∃ p b xs zs, o = .ref p ∧ ds = [.ref b] ∧ M2 p = some (.lst xs) ∧ M2 b = some (.lst zs) ∧ xs.length + zs.length ≤ sizeLine ∧ Q .non (mput M2 p (.lst (xs ++ zs)))
theorem d_ext {e : Expr} (h : PE X e (tBM X.K "list" rExtend (lE (bs X CR E W) w) (lA (bs X CR E W) t))) : PD X (bs X CR E W) e (dExt w t) := by
  refine h.imp fun σ H Q h => ?_
  obtain ⟨P, δ, M, Qd, hS, g, x, w, k⟩ := h
  refine ⟨P, δ, M, _, hS, g, x, w, fun v H1 ⟨d, M1, z1, g1, r1, ⟨p, xs, ed, em⟩, q⟩ => ?_⟩
  subst ed
  obtain ⟨vs, eh, rs⟩ := g1.at_ p _ em
  rw [show v = .ref p from r1]
  refine ⟨.inl ⟨rfl, vs, .of eh⟩, P, δ, M1, _, hS.mono z1, g1, x.trans z1, q, fun us H2 ds M2 z2 g2 rs2 q2 => ?_⟩
  obtain ⟨p', b, xs', zs', ep, rfl, em', eb, hz, q3⟩ := q2
  cases ep
  obtain ⟨vs', eh', rs'⟩ := g2.at_ p _ em'
  obtain ⟨ws', ew', rw'⟩ := g2.at_ b _ eb
  obtain ⟨u, r, rfl, r1', r2⟩ := rs2
  have z3 : Fz ⟨X.K, CR, P⟩ H2 M2 (upd H2 p (.lst (vs' ++ ws'))) (mput M2 p (.lst (xs' ++ zs'))) := fz_put g2 em'
  refine ⟨p, b, vs', ws', rfl, by rw [show r = [] from r2, show u = .ref b from r1'], eh', ew', by rw [← rs'.length, ← rw'.length]; exact hz, ?_⟩
  exact k _ _ ⟨.non, _, (z1.trans z2).trans z3, good_put g2 (g2.noP em') z3 (show RepO _ _ _ p (.lst _) from ⟨_, upd_same, (rs'.append rw').mono z3⟩), rfl, q3⟩
/-- sum(xs) of ints -/
def rSumD : DC := fun ds M Q => ∃ ns : List Int, ds = [.lst (ns.map D.int)] ∧ Q (.int ns.sum) M
theorem ints_at {O : Own} {H M} : ∀ {ns : List Int} {vs : List V}, Reps O H M (ns.map D.int) vs → vs = ns.map V.int
  | [], vs, r => r
  | n :: ns, vs, r => by
    obtain ⟨v, us, rfl, r1, r2⟩ := r
    rw [show v = .int n from r1, ints_at r2]; rfl
theorem c_sumD (hc : X.calm = true) : CallR X (.builtin "sum") (lC X.K CR rSumD) := (cr_sum hc).imp fun xs H Q hh => by
  obtain ⟨P, ds, M, Qd, rs, gd, ⟨ns, rfl, q⟩, k⟩ := hh
  obtain ⟨v, r, rfl, ⟨a, vs, rfl, f, rv⟩, r2⟩ := rs
  rw [show r = [] from r2]
  have e := ints_at rv
  subst e
  exact ⟨a, ns, rfl, f.sq, k _ _ (lf_int gd q)⟩
theorem d_methC0 {C : Addr} {name : Str} {ps : List Str} {sp : DSp} {pl : Sem Bool} {j k : Nat} (O : MethC X.prog X.w X.K X.mg X.base CR k C name ps sp) (hr : Room j X.A) (tk : Takes X W) (ho : PD X (bs X CR E W) o wo) (hk : k ≤ j := by decide)
    (ht : eval (.Call (.Attribute o name apos) [] [] pos) X.env = (do
      let ov ← eval o X.env
      standAt apos.atName
      let (f, first) ← holding [ov] (getMethod ov name pl)
      callWith pos f first (backTo pos (starEach [] X.env)) (backToKw pos (keywordEach [] X.env))) := by rfl) : PD X (bs X CR E W) (.Call (.Attribute o name apos) [] [] pos) (dMethC C name sp E wo dNil) := by
  obtain ⟨f, fd, F, hb, hm⟩ := O.ex
  refine ⟨fun pins s σ H Q I h => ?_⟩
  obtain ⟨P, δ, M, Qd, hS, g, x, w, kk⟩ := h
  refine PySem.W.methodCall_KW (pl := pl) (thn (ho.run pins s σ H (fun v H' => LfV ⟨X.K, CR, P⟩ H M _ v H') I ⟨P, δ, M, _, hS, g, x, w, fun _ _ l => l⟩) fun u s1 ⟨y, H1, I1, ry, d, M1, z1, g1, r1, ns, xs, hd, hn, q1⟩ => ?_) ht
  obtain ⟨a, dx, vs0, ey, ea, _, _⟩ := hd.at_ g1 r1
  subst ey
  obtain rfl : u = Value.ref a := ry
  refine getmeth_ok I1 ea O.cls hm (lookup_none _ hn) ?_
  refine PySem.W.callWith_K0 (first := [.ref a]) I1.kIn hm.kp ?_
  refine run_fnS (E := fun σ c d H' => W c d σ H') (us := [.ref a]) (vs := [.ref a]) F (hr.mono hk) hb (passAt tk σ) I1 (.cons rfl .nil) ?_
  exact ⟨P, [d], M1, Qd, _, ⟨_, _, rfl, r1, rfl⟩, g1, q1.2, fun v H' l => kk v H' (l.trans z1), lfx_w (hS.mono z1) (x.trans z1)⟩
end
def w_Ratio___init__ (CR : Addr) : DSt :=
  (dSeq (dIf (dTst (dOp rEqP (dVar 2) (dC (.int 0))))
  dNever
  dNext)
  (dSeq (dSet 3 (dCB rGcdD (dCons (dVar 1) (dCons (dVar 2) dNil))))
  (dSeq (dIf (dTst (dOp rLt (dVar 2) (dC (.int 0))))
  (dSet 3 (dUn rNeg (dVar 3)))
  dNext)
  (dSeq (dFldSet (· = CR) "top" (dVar 0) (dOp rFdivB (dVar 1) (dVar 3)))
  (dFldSet (· = CR) "bottom" (dVar 0) (dOp rFdivB (dVar 2) (dVar 3)))))))
theorem rd_Ratio___init__ (CR : Addr) (ds M Q E) (h : sp_init CR ds M Q E) : w_Ratio___init__ CR { nx := fun _ M' => Q .non M', rt := Q } (startD 4 ds) M := by
  obtain ⟨p, a, b, rfl, hM, hb, hz, hq⟩ := h
  have cf : ∀ x : Int, CFb x (comm a b) := fun x => comm_ne hb
  have tail : (dSeq (dFldSet (· = CR) "top" (dVar 0) (dOp rFdivB (dVar 1) (dVar 3))) (dFldSet (· = CR) "bottom" (dVar 0) (dOp rFdivB (dVar 2) (dVar 3)))) { nx := fun _ M' => Q .non M', rt := Q } [some (.ref p), some (.int a), some (.int b), some (.int (comm a b))] M := by
    refine ⟨_, rfl, _, rfl, cf a, _, rfl, p, CR, [], [], _, _, rfl, hM, rfl, by decide, rfl, .new (by simp), ?_⟩
    refine ⟨_, rfl, _, rfl, cf b, _, rfl, p, CR, _, _, _, _, rfl, mput_same, rfl, by decide, rfl, .new (by decide), ?_⟩
    rw [mput_mput]
    show Q .non (mput M p (.ins CR ["top", "bottom"] [.int (a.fdiv (comm a b)), .int (b.fdiv (comm a b))]))
    rw [init_num hb, init_den hb]
    exact hq
  refine ⟨_, rfl, .inl ⟨rfl, rfl, fun k hk => ⟨k, rfl, ite_b (fun h1 => ?_) (fun _ => ?_)⟩⟩⟩
  · have := hk.mp h1
    injection this with h2
    exact absurd h2 hb
  · refine ⟨_, rfl, _, rfl, a, b, rfl, _, rfl, trivial, _, rfl, ite_d (fun hn => ?_) (fun hp => ?_)⟩
    · have e : comm a b = -((Nat.gcd a.natAbs b.natAbs : Nat) : Int) := if_pos hn
      rw [e] at tail
      exact ⟨_, rfl, tail⟩
    · have e : comm a b = ((Nat.gcd a.natAbs b.natAbs : Nat) : Int) := if_neg hp
      rw [e] at tail
      exact tail
theorem na {n m : Nat} (h : n ≤ 2 ^ m) : ((n : Nat) : Int).natAbs ≤ 2 ^ m := by rw [Int.natAbs_natCast]; exact h
theorem sm_nd {p q : Rat} (hp : Sm p) (hq : Sm q) : IntMulOk p.num q.den := mulS (n := 16000000) (m := 16000000) hp.1 (na hq.2)
theorem sm_nn {p q : Rat} (hp : Sm p) (hq : Sm q) : IntMulOk p.num q.num := mulS (n := 16000000) (m := 16000000) hp.1 hq.1
theorem sm_dd {p q : Rat} (hp : Sm p) (hq : Sm q) : IntMulOk (p.den : Int) q.den := mulS (n := 16000000) (m := 16000000) (na hp.2) (na hq.2)
theorem sm_dn {p q : Rat} (hp : Sm p) (hq : Sm q) : IntMulOk (p.den : Int) q.num := mulS (n := 16000000) (m := 16000000) (na hp.2) hq.1
theorem sm_z {p q : Rat} (hp : Sm p) (hq : Sm q) : szB ((p.den : Int) * q.den) := trivial
theorem sm_zn {p q : Rat} (hp : Sm p) (hq : Sm q) : szB ((p.den : Int) * q.num) := trivial
theorem sm_z1 {p : Rat} (hp : Sm p) : szB (p.den : Int) := trivial
theorem dd_ne (p q : Rat) : (p.den : Int) * q.den ≠ 0 := Int.mul_ne_zero (dne p) (dne q)
def w_Ratio___add__ : DSt :=
  (dRet (dMk (dCons (dOp rAddP (dOp rMulI (dTop (dVar 0)) (dBot (dVar 1))) (dOp rMulI (dTop (dVar 1)) (dBot (dVar 0)))) (dCons (dOp rMulI (dBot (dVar 0)) (dBot (dVar 1))) dNil))))
theorem rd_Ratio___add__ (ds M Q E) (h : sp_add ds M Q E) : w_Ratio___add__ { nx := fun _ M' => Q .non M', rt := Q } (startD 2 ds) M := by
  obtain ⟨p, q, rfl, hp, hq, h⟩ := h
  refine ⟨_, rfl, p, rfl, _, rfl, q, rfl, sm_nd hp hq, _, rfl, q, rfl, _, rfl, p, rfl, sm_nd hq hp, _, rfl, p, rfl, _, rfl, q, rfl, sm_dd hp hq, dd_ne p q, sm_z hp hq, ?_⟩
  rw [q_add]
  exact h
def w_Ratio___sub__ : DSt :=
  (dRet (dMk (dCons (dOp rSubI (dOp rMulI (dTop (dVar 0)) (dBot (dVar 1))) (dOp rMulI (dTop (dVar 1)) (dBot (dVar 0)))) (dCons (dOp rMulI (dBot (dVar 0)) (dBot (dVar 1))) dNil))))
theorem rd_Ratio___sub__ (ds M Q E) (h : sp_sub ds M Q E) : w_Ratio___sub__ { nx := fun _ M' => Q .non M', rt := Q } (startD 2 ds) M := by
  obtain ⟨p, q, rfl, hp, hq, h⟩ := h
  refine ⟨_, rfl, p, rfl, _, rfl, q, rfl, sm_nd hp hq, _, rfl, q, rfl, _, rfl, p, rfl, sm_nd hq hp, trivial, _, rfl, p, rfl, _, rfl, q, rfl, sm_dd hp hq, dd_ne p q, sm_z hp hq, ?_⟩
  rw [q_sub]
  exact h
def w_Ratio___mul__ : DSt :=
  (dRet (dMk (dCons (dOp rMulI (dTop (dVar 0)) (dTop (dVar 1))) (dCons (dOp rMulI (dBot (dVar 0)) (dBot (dVar 1))) dNil))))
theorem rd_Ratio___mul__ (ds M Q E) (h : sp_mul ds M Q E) : w_Ratio___mul__ { nx := fun _ M' => Q .non M', rt := Q } (startD 2 ds) M := by
  obtain ⟨p, q, rfl, hp, hq, h⟩ := h
  refine ⟨_, rfl, p, rfl, _, rfl, q, rfl, sm_nn hp hq, _, rfl, p, rfl, _, rfl, q, rfl, sm_dd hp hq, dd_ne p q, sm_z hp hq, ?_⟩
  rw [q_mul]
  exact h
def w_Ratio___neg__ : DSt :=
  (dRet (dMk (dCons (dUn rNeg (dTop (dVar 0))) (dCons (dBot (dVar 0)) dNil))))
theorem rd_Ratio___neg__ (ds M Q E) (h : sp_neg ds M Q E) : w_Ratio___neg__ { nx := fun _ M' => Q .non M', rt := Q } (startD 1 ds) M := by
  obtain ⟨p, rfl, hp, h⟩ := h
  refine ⟨_, rfl, p, rfl, _, rfl, p, rfl, dne p, sm_z1 hp, ?_⟩
  rw [q_neg]
  exact h
def w_Ratio___eq__ : DSt :=
  (dRet (dAndV (dIsR (dVar 1)) (dAndV (dOp rEqP (dTop (dVar 0)) (dTop (dVar 1))) (dOp rEqP (dBot (dVar 0)) (dBot (dVar 1))))))
theorem rd_Ratio___eq__ (ds M Q E) (h : sp_eq ds M Q E) : w_Ratio___eq__ { nx := fun _ M' => Q .non M', rt := Q } (startD 2 ds) M := by
  obtain ⟨p, d, r, rfl, he, h⟩ := h
  have fl : ∀ n, tyD d M = some n → n ∈ tyNs → Q (.bl false) M → w_Ratio___eq__ { nx := fun _ M' => Q .non M', rt := Q } (startD 2 [.rat p, d]) M := fun n hn hm q => by
    refine ⟨_, rfl, ?_⟩
    cases d with
    | rat q => cases hn
    | _ => exact ⟨n, hn, hm, false, rfl, ite_f q⟩
  cases d with
  | int i => cases he; exact fl _ rfl (by decide) h
  | str i => cases he; exact fl _ rfl (by decide) h
  | non => cases he; exact fl _ rfl (by decide) h
  | bl i => cases he; exact fl _ rfl (by decide) h
  | ref _ => cases he
  | ty _ => cases he
  | tup _ => cases he
  | prs _ => cases he
  | lst _ => cases he
  | scr _ => cases he
  | obj _ _ _ => cases he
  | rat q =>
  injection he with he
  subst he
  have no : p ≠ q → Q (.bl false) M := fun n => by rw [decide_eq_false n] at h; exact h
  refine ⟨_, rfl, true, rfl, ite_t ⟨_, rfl, p, rfl, _, rfl, q, rfl, .inl ⟨rfl, rfl, fun k hk => ⟨k, rfl, ite_b (fun h1 => ?_) (fun h1 => ?_)⟩⟩⟩⟩
  · have e1 := hk.mp h1
    injection e1 with e1
    refine ⟨_, rfl, p, rfl, _, rfl, q, rfl, .inl ⟨rfl, rfl, fun j hj => ?_⟩⟩
    cases j with
    | true =>
      have e2 := hj.mp rfl
      injection e2 with e2
      rw [decide_eq_true ((q_eq p q).mpr ⟨e1, e2⟩)] at h
      exact h
    | false => exact no fun e => absurd (hj.mpr (by rw [e])) Bool.false_ne_true
  · exact no fun e => by
      rw [hk.mpr (by rw [e])] at h1
      cases h1
def w_Ratio___lt__ : DSt :=
  (dRet (dOp rLt (dOp rMulI (dTop (dVar 0)) (dBot (dVar 1))) (dOp rMulI (dTop (dVar 1)) (dBot (dVar 0)))))
theorem rd_Ratio___lt__ (ds M Q E) (h : sp_lt ds M Q E) : w_Ratio___lt__ { nx := fun _ M' => Q .non M', rt := Q } (startD 2 ds) M := by
  obtain ⟨p, q, rfl, hp, hq, h⟩ := h
  refine ⟨_, rfl, p, rfl, _, rfl, q, rfl, sm_nd hp hq, _, rfl, q, rfl, _, rfl, p, rfl, sm_nd hq hp, trivial, ?_⟩
  have e : decide (p.num * (q.den : Int) < q.num * (p.den : Int)) = decide (p < q) := decide_eq_decide.mpr (Rat.lt_iff p q).symm
  show Q (.bl (decide (p.num * (q.den : Int) < q.num * (p.den : Int)))) M
  rw [e]
  exact h
def w_Ratio___le__ : DSt :=
  (dRet (dOp rLe (dOp rMulI (dTop (dVar 0)) (dBot (dVar 1))) (dOp rMulI (dTop (dVar 1)) (dBot (dVar 0)))))
theorem rd_Ratio___le__ (ds M Q E) (h : sp_le ds M Q E) : w_Ratio___le__ { nx := fun _ M' => Q .non M', rt := Q } (startD 2 ds) M := by
  obtain ⟨p, q, rfl, hp, hq, h⟩ := h
  refine ⟨_, rfl, p, rfl, _, rfl, q, rfl, sm_nd hp hq, _, rfl, q, rfl, _, rfl, p, rfl, sm_nd hq hp, trivial, ?_⟩
  have e : decide (p.num * (q.den : Int) ≤ q.num * (p.den : Int)) = decide (p ≤ q) := decide_eq_decide.mpr (Rat.le_iff p q).symm
  show Q (.bl (decide (p.num * (q.den : Int) ≤ q.num * (p.den : Int)))) M
  rw [e]
  exact h
def w_Ratio___gt__ : DSt :=
  (dRet (dOp rGt (dOp rMulI (dTop (dVar 0)) (dBot (dVar 1))) (dOp rMulI (dTop (dVar 1)) (dBot (dVar 0)))))
theorem rd_Ratio___gt__ (ds M Q E) (h : sp_gt ds M Q E) : w_Ratio___gt__ { nx := fun _ M' => Q .non M', rt := Q } (startD 2 ds) M := by
  obtain ⟨p, q, rfl, hp, hq, h⟩ := h
  refine ⟨_, rfl, p, rfl, _, rfl, q, rfl, sm_nd hp hq, _, rfl, q, rfl, _, rfl, p, rfl, sm_nd hq hp, trivial, ?_⟩
  have e : decide (p.num * (q.den : Int) > q.num * (p.den : Int)) = decide (q < p) := decide_eq_decide.mpr (Rat.lt_iff q p).symm
  show Q (.bl (decide (p.num * (q.den : Int) > q.num * (p.den : Int)))) M
  rw [e]
  exact h
def w_Ratio___ge__ : DSt :=
  (dRet (dOp rGe (dOp rMulI (dTop (dVar 0)) (dBot (dVar 1))) (dOp rMulI (dTop (dVar 1)) (dBot (dVar 0)))))
theorem rd_Ratio___ge__ (ds M Q E) (h : sp_ge ds M Q E) : w_Ratio___ge__ { nx := fun _ M' => Q .non M', rt := Q } (startD 2 ds) M := by
  obtain ⟨p, q, rfl, hp, hq, h⟩ := h
  refine ⟨_, rfl, p, rfl, _, rfl, q, rfl, sm_nd hp hq, _, rfl, q, rfl, _, rfl, p, rfl, sm_nd hq hp, trivial, ?_⟩
  have e : decide (p.num * (q.den : Int) ≥ q.num * (p.den : Int)) = decide (q ≤ p) := decide_eq_decide.mpr (Rat.le_iff q p).symm
  show Q (.bl (decide (p.num * (q.den : Int) ≥ q.num * (p.den : Int)))) M
  rw [e]
  exact h
def w_Ratio___abs__ : DSt :=
  (dRet (dMk (dCons (dCB rAbsI (dCons (dTop (dVar 0)) dNil)) (dCons (dBot (dVar 0)) dNil))))
theorem rd_Ratio___abs__ (ds M Q E) (h : sp_abs ds M Q E) : w_Ratio___abs__ { nx := fun _ M' => Q .non M', rt := Q } (startD 1 ds) M := by
  obtain ⟨p, rfl, hp, h⟩ := h
  refine ⟨_, rfl, p, rfl, p.num, rfl, _, rfl, p, rfl, dne p, sm_z1 hp, ?_⟩
  have e : (if p.num < 0 then -p.num else p.num) = (p.num.natAbs : Int) := by split <;> omega
  rw [e, q_abs]
  exact h
/-- a fraction as the law keeps it -/
def pairD (q : Rat) : D := .tup [.int q.num, .int q.den]
theorem euclid_half {x y : Int} (hy : 0 < y) (hyx : y < x) : 2 * (x % y) < x := by
  have h1 := Int.emod_lt_of_pos x hy
  by_cases h : 2 * y ≤ x
  · omega
  · have : x % y = x - y := by
      have e : x = (x - y) + y * 1 := by omega
      have h2 : (x - y) % y = x - y := Int.emod_eq_of_lt (by omega) (by omega)
      rw [e, Int.add_mul_emod_self_left, h2]; omega
    omega
/-- steps enough for Euclid's way -/
def Fuel (n : Nat) (x y : Int) : Prop := (∃ b : Nat, y < 2 ^ b ∧ 2 * b ≤ n) ∨ ∃ b : Nat, y < x ∧ x < 2 ^ b ∧ 2 * b ≤ n + 1
theorem fuel_end {x y : Int} (h0 : 0 ≤ y) (h : Fuel 0 x y) : y = 0 := by
  rcases h with ⟨b, h1, h2⟩ | ⟨b, h1, h2, h3⟩
  · obtain rfl : b = 0 := by omega
    have : y < 1 := by simpa using h1
    omega
  · obtain rfl : b = 0 := by omega
    have : x < 1 := by simpa using h2
    omega
theorem fuel_step {n : Nat} {x y : Int} (h0 : 0 < y) (h : Fuel (n + 1) x y) : Fuel n y (x % y) := by
  have hm := Int.emod_lt_of_pos x h0
  rcases h with ⟨b, h1, h2⟩ | ⟨b, h1, h2, h3⟩
  · exact .inr ⟨b, hm, h1, by omega⟩
  · cases b with
    | zero =>
      have : x < 1 := by simpa using h2
      omega
    | succ b =>
      have := euclid_half h0 h1
      have e : (2 : Int) ^ (b + 1) = 2 ^ b * 2 := Int.pow_succ ..
      exact .inl ⟨b, by omega, by omega⟩
theorem gcd_step {x y : Int} (h0 : 0 ≤ x) (h1 : 0 ≤ y) : Nat.gcd y.natAbs (x % y).natAbs = Nat.gcd x.natAbs y.natAbs := by
  rw [Int.natAbs_emod_of_nonneg h0, Nat.gcd_comm x.natAbs]
  exact (Nat.gcd_comm _ _).trans (Nat.gcd_rec _ _).symm
def TapeOk (ts : List Int) : Prop := ts.length ≤ 2520 ∧ ∀ t, t ∈ ts → 0 ≤ t ∧ t < 2147483648
def dInts (ts : List Int) : List D := ts.map D.int
theorem tape_app {ts : List Int} {n : Nat} {t : Int} (h : ts.length ≤ n ∧ ∀ t, t ∈ ts → 0 ≤ t ∧ t < 2147483648) (h0 : 0 ≤ t) (h1 : t < 2147483648) : (ts ++ [t]).length ≤ n + 1 ∧ ∀ u, u ∈ ts ++ [t] → 0 ≤ u ∧ u < 2147483648 := by
  refine ⟨by rw [List.length_append, List.length_singleton]; omega, fun u hu => ?_⟩
  rcases List.mem_append.mp hu with hu | hu
  · exact h.2 u hu
  · rw [List.mem_singleton.mp hu]; exact ⟨h0, h1⟩
theorem dInts_app (ts : List Int) (t : Int) : dInts ts ++ [.int t] = dInts (ts ++ [t]) := by unfold dInts; rw [List.map_append]; rfl
/-- the law's state at st: a tape and a place; b: the place is at most b -/
def Lw (st : Addr) (b : Nat) (M : Mem) : Prop := ∃ (ts : List Int) (k : Int), TapeOk ts ∧ 0 ≤ k ∧ k ≤ b ∧ M st = some (.lst [.lst (dInts ts), .int k])
/-- but at st all is as it was -/
def Off (st : Addr) (M M' : Mem) : Prop := ∀ a, a ≠ st → M' a = M a
theorem Off.refl {st M} : Off st M M := fun _ _ => rfl
theorem Off.trans {st M M1 M2} (a : Off st M M1) (b : Off st M1 M2) : Off st M M2 := fun x h => (b x h).trans (a x h)
theorem Lw.mono {st b c M} (h : Lw st b M) (hbc : b ≤ c) : Lw st c M := let ⟨ts, k, t, h0, h1, e⟩ := h; ⟨ts, k, t, h0, by omega, e⟩
theorem at_mem {α : Type} {xs : List α} {k : Int} (h0 : 0 ≤ k) (h1 : k < xs.length) : ∃ d, atI xs k = some d ∧ d ∈ xs := by
  have hk : k.toNat < xs.length := by omega
  exact ⟨xs[k.toNat], atI_nn h0 (List.getElem?_eq_getElem hk), List.getElem_mem hk⟩
theorem rngD_len (j : Int) : (rngD 0 j).length = j.toNat := by unfold rngD; simp
theorem cut_dropN {xs : List D} {k : Nat} (h : k ≤ xs.length) : cutD xs (some (k : Int)) none = xs.drop k := by
  unfold cutD
  rw [HT.sIx_none, HT.sIx_nat, Nat.min_eq_left h]
  exact List.take_of_length_le (by rw [List.length_drop]; exact Nat.le_refl _)
theorem lc_ofD {α : Type} {j : Nat} {chk : Mem → Prop} {te : DE} {δ : DS0} {M : Mem} {Q : List D → Mem → Prop} (g f : α → D) (P : α → Prop) (hc : chk M) (h : ∀ r (K : DK), P r → K (f r) M → te (δ.set j (some (g r))) M K) :
    ∀ (m : List α) (acc : List D), (∀ r, r ∈ m → P r) → acc.length + m.length ≤ sizeLine → Q (acc ++ m.map f) M → dLcL chk (gNm j) dYes te δ (m.map g) acc M Q
  | [], acc, _, _, q => ⟨hc, by simpa using q⟩
  | r :: m, acc, hp, hl, q => by
    refine ⟨hc, by rw [List.length_cons] at hl; omega, ?_⟩
    refine ite_t (B := dLcL chk (gNm j) dYes te δ (m.map g) acc M Q) (h r _ (hp r List.mem_cons_self) (lc_ofD g f P hc h m _ (fun y hy => hp y (List.mem_cons_of_mem _ hy)) ?_ ?_))
    · rw [List.length_append, List.length_singleton]; rw [List.length_cons] at hl; omega
    · rw [List.append_assoc]; exact q
/-! books: a plain form of them, and what a deed does -/
structure Rdg where
  name : Str
  terms : List (Str × Int)
  value : Rat
  weight : Rat
structure Bk where
  pts : List Str
  near : List Rat
  rds : List Rdg
def trmD (p : Str × Int) : D := .tup [.str p.1, .int p.2]
def trmsD (t : List (Str × Int)) : D := .tup (t.map trmD)
def rdgD (AD : Ad) (r : Rdg) : D := .obj AD.rd ["name", "terms", "value", "weight"] [.str r.name, trmsD r.terms, .rat r.value, .rat r.weight]
def rowD (r : Rdg) : D := .tup [.str r.name, trmsD r.terms, pairD r.value, pairD r.weight]
inductive Er
  | dup | badr | up | ur | lim
def Er.ad (AD : Ad) : Er → Addr
  | .dup => AD.dup
  | .badr => AD.badr
  | .up => AD.up
  | .ur => AD.ur
  | .lim => AD.lim
def Er.fl : Er → Str
  | .dup => "name"
  | .badr => "reason"
  | .up => "name"
  | .ur => "name"
  | .lim => "what"
def Er.wd : Er → Str
  | .dup => "duplicate"
  | .badr => "reading"
  | .up => "point"
  | .ur => "mark"
  | .lim => "limit"
inductive Dd
  | point (n : Str) (q : Rat)
  | reading (r : Rdg)
  | appr (n : Str) (q : Rat)
  | value (n : Str) (q : Rat)
  | weight (n : Str) (q : Rat)
  | withdraw (n : Str)
  | remove (n : Str)
def ddD : Dd → D
  | .point n q => .tup [.str "point", .str n, pairD q]
  | .reading r => .tup [.str "reading", .str r.name, trmsD r.terms, pairD r.value, pairD r.weight]
  | .appr n q => .tup [.str "approximation", .str n, pairD q]
  | .value n q => .tup [.str "value", .str n, pairD q]
  | .weight n q => .tup [.str "weight", .str n, pairD q]
  | .withdraw n => .tup [.str "withdraw", .str n]
  | .remove n => .tup [.str "remove", .str n]
abbrev ltS (a b : Str) : Bool := decide (a.cps.toList < b.cps.toList)
def fitG : Str → List (Str × Int) → Bool
  | _, [] => true
  | b, (n, c) :: t => !decide (c = 0) && (decide (-9 ≤ c) && (decide (c ≤ 9) && (ltS b n && fitG n t)))
def fits (t : List (Str × Int)) : Bool := fitG "" t && decide (0 < t.length)
def plc : List Rdg → Str → Option (Nat × Rdg)
  | [], _ => none
  | r :: l, n => if r.name = n then some (0, r) else (plc l n).map fun x => (x.1 + 1, x.2)
def unk (pts : List Str) : List (Str × Int) → Option Str
  | [] => none
  | (n, _) :: t => if n ∈ pts then unk pts t else some n
def used (n : Str) (l : List Rdg) : Bool := l.any fun r => decide (n ∈ r.terms.map Prod.fst)
abbrev Res := Except (Er × Str) Bk
def addP (b : Bk) (n : Str) (q : Rat) : Res := if n ∈ b.pts then .error (.dup, n) else if b.pts.length = 12 then .error (.lim, "points") else .ok ⟨b.pts ++ [n], b.near ++ [q], b.rds⟩
def addR (b : Bk) (r : Rdg) : Res := if r.name ∈ b.rds.map Rdg.name then .error (.dup, r.name) else if fits r.terms = true then
    match unk b.pts r.terms with
    | some n => .error (.up, n)
    | none => if r.weight.num ≤ 0 then .error (.badr, "weight") else if b.rds.length = 24 then .error (.lim, "readings") else .ok ⟨b.pts, b.near, b.rds ++ [r]⟩
  else .error (.badr, "terms")
def chA (b : Bk) (n : Str) (q : Rat) : Res := if n ∈ b.pts then .ok ⟨b.pts, setK b.pts b.near n q, b.rds⟩ else .error (.up, n)
def chV (b : Bk) (n : Str) (q : Rat) : Res := match plc b.rds n with
  | none => .error (.ur, n)
  | some (i, r) => .ok ⟨b.pts, b.near, b.rds.set i ⟨n, r.terms, q, r.weight⟩⟩
def chW (b : Bk) (n : Str) (q : Rat) : Res := match plc b.rds n with
  | none => .error (.ur, n)
  | some (i, r) => if q.num ≤ 0 then .error (.badr, "weight") else .ok ⟨b.pts, b.near, b.rds.set i ⟨n, r.terms, r.value, q⟩⟩
def wdr (b : Bk) (n : Str) : Res := match plc b.rds n with
  | none => .error (.ur, n)
  | some (i, _) => .ok ⟨b.pts, b.near, b.rds.eraseIdx i⟩
def rmP (b : Bk) (n : Str) : Res := if n ∈ b.pts then (if used n b.rds = true then .error (.badr, "used") else .ok ⟨delK b.pts b.pts n, delK b.pts b.near n, b.rds⟩) else .error (.up, n)
def stp (b : Bk) : Dd → Res
  | .point n q => addP b n q
  | .reading r => addR b r
  | .appr n q => chA b n q
  | .value n q => chV b n q
  | .weight n q => chW b n q
  | .withdraw n => wdr b n
  | .remove n => rmP b n
/-- a book that stands in the memory -/
structure BkAt (AD : Ad) (p a1 a2 a3 : Addr) (b : Bk) (M : Mem) : Prop where
  ins : M p = some (.ins AD.bk ["points", "approximations", "readings"] [.ref a1, .ref a2, .ref a3])
  pts : M a1 = some (.lst (b.pts.map D.str))
  near : M a2 = some (.dic b.pts (b.near.map D.rat))
  rds : M a3 = some (.lst (b.rds.map (rdgD AD)))
  ne : a1 ≠ a3
theorem BkAt.n12 {AD p a1 a2 a3 b M} (h : BkAt AD p a1 a2 a3 b M) : a1 ≠ a2 := fun e => by have := h.pts; rw [e, h.near] at this; cases this
theorem BkAt.n32 {AD p a1 a2 a3 b M} (h : BkAt AD p a1 a2 a3 b M) : a3 ≠ a2 := fun e => by have := h.rds; rw [e, h.near] at this; cases this
theorem BkAt.np1 {AD p a1 a2 a3 b M} (h : BkAt AD p a1 a2 a3 b M) : p ≠ a1 := fun e => by have := h.ins; rw [e, h.pts] at this; cases this
theorem BkAt.np2 {AD p a1 a2 a3 b M} (h : BkAt AD p a1 a2 a3 b M) : p ≠ a2 := fun e => by have := h.ins; rw [e, h.near] at this; cases this
theorem BkAt.np3 {AD p a1 a2 a3 b M} (h : BkAt AD p a1 a2 a3 b M) : p ≠ a3 := fun e => by have := h.ins; rw [e, h.rds] at this; cases this
abbrev SO (x : Str) : Prop := PyData.strOk x = true
structure RdgOk (r : Rdg) : Prop where
  nm : SO r.name
  tm : ∀ t, t ∈ r.terms → SO t.1
  few : r.terms.length ≤ 100
def DdOk : Dd → Prop
  | .point n _ => SO n
  | .reading r => RdgOk r
  | .appr n _ => SO n
  | .value n _ => SO n
  | .weight n _ => SO n
  | .withdraw n => SO n
  | .remove n => SO n
structure BkOk (b : Bk) : Prop where
  so : ∀ n, n ∈ b.pts → SO n
  ro : ∀ r, r ∈ b.rds → RdgOk r
  nd : b.pts.Nodup
  len : b.pts.length = b.near.length
  nm : (b.rds.map Rdg.name).Nodup
  few : b.pts.length ≤ 12
  fewR : b.rds.length ≤ 24
/-- but at three places all is as it was -/
def Of3 (a1 a2 a3 : Addr) (M M' : Mem) : Prop := ∀ a, a ≠ a1 → a ≠ a2 → a ≠ a3 → M' a = M a
/-- what a deed ends in -/
def After (AD : Ad) (p a1 a2 a3 : Addr) (r : Res) (M : Mem) (Q : DK) (Ex : DX) : Prop := match r with
  | .error (e, t) => Ex (e.ad AD) [e.fl] [.str t] M
  | .ok b' => ∀ M', BkAt AD p a1 a2 a3 b' M' → Of3 a1 a2 a3 M M' → Q .non M'
theorem BkAt.setP {AD p a1 a2 a3 b M} (h : BkAt AD p a1 a2 a3 b M) (pts : List Str) (near : List Rat) : BkAt AD p a1 a2 a3 ⟨pts, near, b.rds⟩ (mput (mput M a1 (.lst (pts.map D.str))) a2 (.dic pts (near.map D.rat))) ∧ Of3 a1 a2 a3 M (mput (mput M a1 (.lst (pts.map D.str))) a2 (.dic pts (near.map D.rat))) :=
  ⟨⟨by rw [mput_ne h.np2, mput_ne h.np1]; exact h.ins, by rw [mput_ne h.n12, mput_same], by rw [mput_same], by rw [mput_ne h.n32, mput_ne h.ne.symm]; exact h.rds, h.ne⟩, fun a n1 n2 _ => by rw [mput_ne n2, mput_ne n1]⟩
theorem BkAt.setN {AD p a1 a2 a3 b M} (h : BkAt AD p a1 a2 a3 b M) (near : List Rat) : BkAt AD p a1 a2 a3 ⟨b.pts, near, b.rds⟩ (mput M a2 (.dic b.pts (near.map D.rat))) ∧ Of3 a1 a2 a3 M (mput M a2 (.dic b.pts (near.map D.rat))) :=
  ⟨⟨by rw [mput_ne h.np2]; exact h.ins, by rw [mput_ne h.n12]; exact h.pts, by rw [mput_same], by rw [mput_ne h.n32]; exact h.rds, h.ne⟩, fun a n1 n2 _ => by rw [mput_ne n2]⟩
theorem BkAt.setR {AD p a1 a2 a3 b M} (h : BkAt AD p a1 a2 a3 b M) (rds : List Rdg) : BkAt AD p a1 a2 a3 ⟨b.pts, b.near, rds⟩ (mput M a3 (.lst (rds.map (rdgD AD)))) ∧ Of3 a1 a2 a3 M (mput M a3 (.lst (rds.map (rdgD AD)))) :=
  ⟨⟨by rw [mput_ne h.np3]; exact h.ins, by rw [mput_ne h.ne]; exact h.pts, by rw [mput_ne h.n32.symm]; exact h.near, by rw [mput_same], h.ne⟩, fun a n1 n2 n3 => by rw [mput_ne n3]⟩
/-! texts and numbers compared -/
theorem bool_iff {k : Bool} {P : Prop} [Decidable P] (h : k = true ↔ P) : k = decide P := by
  rw [Bool.eq_iff_iff, decide_eq_true_iff]; exact h
theorem str_inj {x y : Str} : (D.str x = D.str y) ↔ x = y := ⟨fun h => by injection h, fun h => by rw [h]⟩
section
variable {R : Bool → Prop}
theorem eS {x y : Str} (h : R (decide (x = y))) : ∀ k : Bool, (k = true ↔ D.str x = D.str y) → R k := fun k hk => by rw [bool_iff (hk.trans str_inj)]; exact h
theorem nS {x y : Str} (h : R (!decide (x = y))) : ∀ k : Bool, (k = true ↔ D.str x ≠ D.str y) → R k := fun k hk => by rw [bool_iff (hk.trans (not_congr str_inj)), decide_not]; exact h
theorem int_inj {x y : Int} : (D.int x = D.int y) ↔ x = y := ⟨fun h => by injection h, fun h => by rw [h]⟩
theorem eI {x y : Int} (h : R (decide (x = y))) : ∀ k : Bool, (k = true ↔ D.int x = D.int y) → R k := fun k hk => by rw [bool_iff (hk.trans int_inj)]; exact h
theorem nI {x y : Int} (h : R (!decide (x = y))) : ∀ k : Bool, (k = true ↔ D.int x ≠ D.int y) → R k := fun k hk => by rw [bool_iff (hk.trans (not_congr int_inj)), decide_not]; exact h
theorem pl_strs {n : Nat} : ∀ {xs : List Str}, (∀ x, x ∈ xs → SO x) → plDs (xs.map D.str) n = true
  | [], _ => rfl
  | x :: xs, h => by show (plD (.str x) n && plDs (xs.map D.str) n) = true; rw [pl_strs fun y hy => h y (List.mem_cons_of_mem _ hy), show plD (.str x) n = true from h x List.mem_cons_self]; rfl
theorem mem_strs {n : Str} {xs : List Str} : D.str n ∈ xs.map D.str ↔ n ∈ xs := by
  rw [List.mem_map]
  exact ⟨fun ⟨a, h, e⟩ => by rw [← str_inj.mp e]; exact h, fun h => ⟨n, h, rfl⟩⟩
theorem mS {n : Str} {xs : List Str} (h : R (decide (n ∈ xs))) : ∀ k : Bool, (k = true ↔ D.str n ∈ xs.map D.str) → R k := fun k hk => by rw [bool_iff (hk.trans mem_strs)]; exact h
theorem nmS {n : Str} {xs : List Str} (h : R (!decide (n ∈ xs))) : ∀ k : Bool, (k = true ↔ D.str n ∉ xs.map D.str) → R k := fun k hk => by rw [bool_iff (hk.trans (not_congr mem_strs)), decide_not]; exact h
end
/-! looking up -/
theorem getK_map {α β : Type} (f : α → β) (n : Str) : ∀ (ks : List Str) (xs : List α), getK ks (xs.map f) n = (getK ks xs n).map f
  | [], _ => rfl
  | k :: ks, [] => rfl
  | k :: ks, x :: xs => by
    show (if k = n then some (f x) else getK ks (xs.map f) n) = Option.map f (if k = n then some x else getK ks xs n)
    rw [getK_map f n ks xs]; split <;> rfl
theorem setK_map {α β : Type} (f : α → β) (n : Str) (y : α) : ∀ (ks : List Str) (xs : List α), setK ks (xs.map f) n (f y) = (setK ks xs n y).map f
  | [], _ => rfl
  | k :: ks, [] => rfl
  | k :: ks, x :: xs => by
    show (if k = n then f y else f x) :: setK ks (xs.map f) n (f y) = f (if k = n then y else x) :: (setK ks xs n y).map f
    rw [setK_map f n y ks xs]; split <;> rfl
theorem delK_map {α β : Type} (f : α → β) (n : Str) : ∀ (ks : List Str) (xs : List α), delK ks (xs.map f) n = (delK ks xs n).map f
  | [], _ => rfl
  | k :: ks, [] => rfl
  | k :: ks, x :: xs => by
    show (if k = n then delK ks (xs.map f) n else f x :: delK ks (xs.map f) n) = (if k = n then delK ks xs n else x :: delK ks xs n).map f
    rw [delK_map f n ks xs]; split <;> rfl
theorem delK_self (n : Str) : ∀ (ks : List Str), delK ks ks n = ks.filter fun k => !decide (k = n)
  | [] => rfl
  | k :: ks => by
    show (if k = n then delK ks ks n else k :: delK ks ks n) = _
    rw [List.filter_cons, delK_self n ks]
    by_cases h : k = n <;> simp [h]
theorem getK_none {α : Type} {n : Str} : ∀ {ks : List Str} {xs : List α}, n ∉ ks → getK ks xs n = none
  | [], _, _ => rfl
  | k :: ks, [], _ => rfl
  | k :: ks, x :: xs, h => by
    show (if k = n then some x else getK ks xs n) = none
    rw [if_neg (fun e : k = n => h (by rw [e]; exact List.mem_cons_self)), getK_none fun m => h (List.mem_cons_of_mem _ m)]
theorem getK_snoc {α : Type} {n j : Str} {y : α} : ∀ {ks : List Str} {xs : List α}, ks.length = xs.length → n ∉ ks → getK (ks ++ [n]) (xs ++ [y]) j = if n = j then some y else getK ks xs j
  | [], [], _, _ => rfl
  | k :: ks, x :: xs, h, hn => by
    show (if k = j then some x else getK (ks ++ [n]) (xs ++ [y]) j) = if n = j then some y else if k = j then some x else getK ks xs j
    rw [getK_snoc (by simpa using h) fun m => hn (List.mem_cons_of_mem _ m)]
    by_cases e : k = j
    · rw [if_pos e, if_pos e, if_neg fun e2 => hn (by rw [e2, ← e]; exact List.mem_cons_self)]
    · rw [if_neg e, if_neg e]
  | [], x :: xs, h, _ => by cases h
  | k :: ks, [], h, _ => by cases h
theorem getK_setK {α : Type} {n j : Str} {y z : α} : ∀ {ks : List Str} {xs : List α}, getK ks (setK ks xs n y) j = some z → (j = n ∧ z = y) ∨ (j ≠ n ∧ getK ks xs j = some z)
  | [], _, h => by cases h
  | k :: ks, [], h => by cases h
  | k :: ks, x :: xs, h => by
    have h : (if k = j then some (if k = n then y else x) else getK ks (setK ks xs n y) j) = some z := h
    show _ ∨ (_ ∧ (if k = j then some x else getK ks xs j) = some z)
    by_cases e : k = j
    · rw [if_pos e] at h ⊢
      cases h
      by_cases e2 : k = n
      · exact .inl ⟨by rw [← e, e2], by rw [if_pos e2]⟩
      · exact .inr ⟨by rw [← e]; exact e2, by rw [if_neg e2]⟩
    · rw [if_neg e] at h ⊢; exact getK_setK h
theorem getK_delK {α : Type} {n j : Str} {z : α} : ∀ {ks : List Str} {xs : List α}, getK (delK ks ks n) (delK ks xs n) j = some z → ks.length = xs.length → getK ks xs j = some z
  | [], _, h, _ => by cases h
  | k :: ks, [], _, hl => by cases hl
  | k :: ks, x :: xs, h, hl => by
    have h : getK (if k = n then delK ks ks n else k :: delK ks ks n) (if k = n then delK ks xs n else x :: delK ks xs n) j = some z := h
    show (if k = j then some x else getK ks xs j) = some z
    by_cases e : k = n
    · rw [if_pos e, if_pos e] at h
      have := getK_delK h (by simpa using hl)
      by_cases e2 : k = j
      · have hj : j ∉ delK ks ks n := by rw [delK_self]; intro m; have := (List.mem_filter.mp m).2; rw [← e2, e] at this; simp at this
        rw [getK_none hj] at h; cases h
      · rw [if_neg e2]; exact this
    · rw [if_neg e, if_neg e] at h
      have h : (if k = j then some x else getK (delK ks ks n) (delK ks xs n) j) = some z := h
      by_cases e2 : k = j
      · rw [if_pos e2] at h ⊢; exact h
      · rw [if_neg e2] at h ⊢; exact getK_delK h (by simpa using hl)
theorem getK_ex {α : Type} {n : Str} {ks : List Str} {xs : List α} (hl : ks.length = xs.length) (h : n ∈ ks) : ∃ y, getK ks xs n = some y := Option.isSome_iff_exists.mp ((getK_mem n hl).mpr h)
theorem plc_some {n : Str} {i : Nat} {r : Rdg} : ∀ {l : List Rdg}, plc l n = some (i, r) → l[i]? = some r ∧ r.name = n ∧ i < l.length
  | [], h => by cases h
  | x :: l, h => by
    unfold plc at h
    by_cases e : x.name = n
    · rw [if_pos e] at h; cases h; exact ⟨rfl, e, Nat.succ_pos _⟩
    · rw [if_neg e] at h
      obtain ⟨⟨j, s⟩, h1, h2⟩ := Option.map_eq_some_iff.mp h
      cases h2
      obtain ⟨a, b, c⟩ := plc_some h1
      exact ⟨a, b, Nat.succ_lt_succ c⟩
theorem plc_none {n : Str} : ∀ {l : List Rdg}, plc l n = none → ∀ r, r ∈ l → r.name ≠ n
  | [], _, _, m => nomatch m
  | x :: l, h, r, m => by
    unfold plc at h
    by_cases e : x.name = n
    · rw [if_pos e] at h; cases h
    · rw [if_neg e, Option.map_eq_none_iff] at h
      rcases List.mem_cons.mp m with m | m
      · rw [m]; exact e
      · exact plc_none h r m
theorem nodup_set {l : List Rdg} {i : Nat} {r r2 : Rdg} (h : l[i]? = some r) (e : r2.name = r.name) : (l.set i r2).map Rdg.name = l.map Rdg.name := by
  rw [List.map_set, e]
  obtain ⟨hi, ei⟩ := List.getElem?_eq_some_iff.mp h
  refine List.ext_getElem? fun j => ?_
  rw [List.getElem?_set]
  by_cases c : i = j
  · subst c
    rw [if_pos rfl, List.length_map, if_pos hi, List.getElem?_map, h]; rfl
  · rw [if_neg c]
theorem delK_len {α : Type} {n : Str} {ks : List Str} {xs : List α} (h : ks.length = xs.length) : (delK ks ks n).length = (delK ks xs n).length := by
  induction ks generalizing xs with
  | nil => cases xs <;> rfl
  | cons k ks ih =>
    cases xs with
    | nil => cases h
    | cons x xs =>
      show (if k = n then delK ks ks n else k :: delK ks ks n).length = (if k = n then delK ks xs n else x :: delK ks xs n).length
      by_cases e : k = n
      · rw [if_pos e, if_pos e]; exact ih (by simpa using h)
      · rw [if_neg e, if_neg e, List.length_cons, List.length_cons, ih (by simpa using h)]
theorem BkOk.stp {b b' : Bk} {d : Dd} (h : BkOk b) (hd : DdOk d) (e : stp b d = .ok b') : BkOk b' := by
  obtain ⟨so, ro, nd, len, nm, few, fewR⟩ := h
  cases d with
  | point n q =>
    have e : addP b n q = .ok b' := e
    unfold addP at e
    split at e
    · cases e
    · rename_i h1
      split at e
      · cases e
      · rename_i h2
        cases e
        exact ⟨fun m hm => by
          rcases List.mem_append.mp hm with hm | hm
          · exact so m hm
          · rw [List.mem_singleton.mp hm]; exact hd, ro, List.nodup_append.mpr ⟨nd, by simp, fun a ha c hc => by rw [List.mem_singleton.mp hc]; exact fun e => h1 (e ▸ ha)⟩, by simp [len], nm, by rw [List.length_append, List.length_singleton]; omega, fewR⟩
  | reading r =>
    have e : addR b r = .ok b' := e
    unfold addR at e
    split at e
    · cases e
    · rename_i h1
      split at e
      · split at e
        · cases e
        · split at e
          · cases e
          · split at e
            · cases e
            · rename_i h2
              cases e
              refine ⟨so, fun m hm => ?_, nd, len, ?_, few, by rw [List.length_append, List.length_singleton]; omega⟩
              · rcases List.mem_append.mp hm with hm | hm
                · exact ro m hm
                · rw [List.mem_singleton.mp hm]; exact hd
              show ((b.rds ++ [r]).map Rdg.name).Nodup
              rw [List.map_append]
              exact List.nodup_append.mpr ⟨nm, by simp, fun a ha c hc => by rw [List.mem_singleton.mp hc]; exact fun e => h1 (e ▸ ha)⟩
      · cases e
  | appr n q =>
    have e : chA b n q = .ok b' := e
    unfold chA at e
    split at e
    · cases e; exact ⟨so, ro, nd, by show b.pts.length = (setK b.pts b.near n q).length; rw [setK_len n q len]; exact len, nm, few, fewR⟩
    · cases e
  | value n q =>
    have e : chV b n q = .ok b' := e
    unfold chV at e
    split at e
    · cases e
    · rename_i i r hp
      cases e
      obtain ⟨h1, h2, _⟩ := plc_some hp
      refine ⟨so, fun m hm => ?_, nd, len, by show ((b.rds.set i _).map Rdg.name).Nodup; rw [nodup_set h1 h2.symm]; exact nm, few, by show (b.rds.set i _).length ≤ 24; rw [List.length_set]; exact fewR⟩
      rcases List.mem_or_eq_of_mem_set hm with hm | hm
      · exact ro m hm
      · rw [hm]; have := ro r (List.mem_of_getElem? h1); exact ⟨hd, this.tm, this.few⟩
  | weight n q =>
    have e : chW b n q = .ok b' := e
    unfold chW at e
    split at e
    · cases e
    · rename_i i r hp
      split at e
      · cases e
      · cases e
        obtain ⟨h1, h2, _⟩ := plc_some hp
        refine ⟨so, fun m hm => ?_, nd, len, by show ((b.rds.set i _).map Rdg.name).Nodup; rw [nodup_set h1 h2.symm]; exact nm, few, by show (b.rds.set i _).length ≤ 24; rw [List.length_set]; exact fewR⟩
        rcases List.mem_or_eq_of_mem_set hm with hm | hm
        · exact ro m hm
        · rw [hm]; have := ro r (List.mem_of_getElem? h1); exact ⟨hd, this.tm, this.few⟩
  | withdraw n =>
    have e : wdr b n = .ok b' := e
    unfold wdr at e
    split at e
    · cases e
    · rename_i i r hp
      cases e
      exact ⟨so, fun m hm => ro m (List.mem_of_mem_eraseIdx hm), nd, len, by show ((b.rds.eraseIdx i).map Rdg.name).Nodup; exact (((List.eraseIdx_sublist b.rds i).map Rdg.name).nodup nm), few, Nat.le_trans (List.length_eraseIdx_le ..) fewR⟩
  | remove n =>
    have e : rmP b n = .ok b' := e
    unfold rmP at e
    split at e
    · split at e
      · cases e
      · cases e
        refine ⟨fun m hm => so m (by
          have hm : m ∈ delK b.pts b.pts n := hm
          rw [delK_self] at hm; exact (List.mem_filter.mp hm).1), ro, ?_, delK_len len, nm, ?_, fewR⟩
        · show (delK b.pts b.pts n).Nodup
          rw [delK_self]; exact nd.filter _
        · show (delK b.pts b.pts n).length ≤ 12
          rw [delK_self]; exact Nat.le_trans (List.length_filter_le ..) few
    · cases e
/-- the names of terms -/
theorem lc_trm {M : Mem} {Q : List D → Mem → Prop} {δ : DS0} {i j : Nat} (hij : i ≠ j) (hi : i < δ.length) : ∀ (t : List (Str × Int)) (acc : List D), acc.length + t.length ≤ sizeLine → Q (acc ++ (t.map Prod.fst).map D.str) M → dLcL always (gTu 2 (gsCons (gNm i) (gsCons (gNm j) gsNil))) dYes (dVar i) δ (t.map trmD) acc M Q
  | [], acc, _, q => ⟨trivial, by simpa using q⟩
  | x :: t, acc, hl, q => by
    rw [List.length_cons] at hl
    refine ⟨trivial, by omega, _, rfl, rfl, _, _, rfl, _, _, rfl, rfl, ?_⟩
    refine ite_t (B := dLcL always (gTu 2 (gsCons (gNm i) (gsCons (gNm j) gsNil))) dYes (dVar i) δ (t.map trmD) acc M Q) ⟨.str x.1, ?_, lc_trm hij hi t (acc ++ [.str x.1]) ?_ ?_⟩
    · rw [List.getElem?_set_ne hij.symm, List.getElem?_set_self hi]
    · rw [List.length_append, List.length_singleton]; omega
    · rw [List.append_assoc]; exact q
def sp_Book_add_point_7c4f (AD : Ad) : DSp := fun ds M Q Ex => ∃ (p a1 a2 a3 : Addr) (b : Bk) (n : Str) (q : Rat), ds = [.ref p, .str n, .rat q] ∧ BkAt AD p a1 a2 a3 b M ∧ BkOk b ∧ SO n ∧ After AD p a1 a2 a3 (addP b n q) M Q Ex
def w_Book_add_point_7c4f (AD : Ad) (E : DXS) : DSt :=
  (dSeq (dIf (dTst (dOp (rInK false) (dVar 1) (dFld (· = AD.bk) "approximations" (dVar 0))))
  (dRaiseF AD.dup "name" (dVar 1) E)
  dNext)
  (dSeq (dIf (dTst (dOp rEqP (dCB rLen (dCons (dFld (· = AD.bk) "points" (dVar 0)) dNil)) (dC (.int 12))))
  (dRaiseF AD.lim "what" (dC (.str "points")) E)
  dNext)
  (dSeq (dDrop (dApp (dFld (· = AD.bk) "points" (dVar 0)) (dCons (dVar 1) dNil)))
  (dDPut (dFld (· = AD.bk) "approximations" (dVar 0)) (dVar 1) (dVar 2)))))
theorem rd_Book_add_point_7c4f (AD : Ad) (ds M Q E) (h : sp_Book_add_point_7c4f AD ds M Q E) : w_Book_add_point_7c4f AD (fun C ns fs _ M' => E C ns fs M') { nx := fun _ M' => Q .non M', rt := Q } (startD 3 ds) M := by
  obtain ⟨p, a1, a2, a3, b, n, q, rfl, B, ok, sn, hq⟩ := h
  refine ⟨_, rfl, _, rfl, _, _, _, _, .inr ⟨p, rfl, B.ins⟩, rfl, rfl, n, a2, _, _, rfl, rfl, B.near, _, rfl, ?_⟩
  unfold addP at hq
  by_cases c : n ∈ b.pts
  · rw [if_pos c] at hq
    rw [decide_eq_true c]
    exact ite_t ⟨_, rfl, hq⟩
  rw [if_neg c] at hq
  rw [decide_eq_false c]
  refine ite_f ⟨_, rfl, _, _, _, _, .inr ⟨p, rfl, B.ins⟩, rfl, rfl, _, b.pts.length, rfl, ⟨_, B.pts, by rw [List.length_map]⟩, .inl ⟨rfl, rfl, eI ⟨_, rfl, ite_d (fun h => ?_) fun h => ?_⟩⟩⟩
  · rw [if_pos (by omega)] at hq
    exact hq
  · rw [if_neg (by omega)] at hq
    refine ⟨_, rfl, _, _, _, _, .inr ⟨p, rfl, B.ins⟩, rfl, rfl, ⟨_, _, rfl, B.pts⟩, _, rfl, a1, _, _, rfl, rfl, B.pts, ?_, ?_⟩
    · rw [List.length_map]; exact sz16lt (Nat.lt_of_le_of_lt ok.few (by decide))
    refine ⟨_, rfl, _, rfl, _, _, _, _, .inr ⟨p, rfl, by rw [mput_ne B.np1]; exact B.ins⟩, rfl, rfl, _, rfl, a2, _, _, n, rfl, rfl, by rw [mput_ne B.n12.symm]; exact B.near, sz16lt (Nat.lt_of_le_of_lt ok.few (by decide)), ?_⟩
    obtain ⟨B', o⟩ := B.setP (b.pts ++ [n]) (b.near ++ [q])
    have hq := hq _ B' o
    unfold putD
    rw [if_neg c]
    rw [List.map_append, List.map_append] at hq
    exact hq
def sp_Book___init__ (AD : Ad) : DSp := fun ds M Q _ => ∃ (p : Addr), ds = [.ref p] ∧ M p = some (.ins AD.bk [] []) ∧ ∀ a1 a2 a3 M', BkAt AD p a1 a2 a3 ⟨[], [], []⟩ M' → (∀ a o, a ≠ p → M a = some o → M' a = some o) → M a1 = none → M a2 = none → M a3 = none → Q .non M'
def w_Book___init__ (AD : Ad) : DSt :=
  (dSeq (dFldSet (· = AD.bk) "points" (dVar 0) (dCB rLstR dNil))
  (dSeq (dFldSet (· = AD.bk) "approximations" (dVar 0) dDNew)
  (dFldSet (· = AD.bk) "readings" (dVar 0) (dCB rLstR dNil))))
theorem rd_Book___init__ (AD : Ad) (ds M Q E) (h : sp_Book___init__ AD ds M Q E) : w_Book___init__ AD { nx := fun _ M' => Q .non M', rt := Q } (startD 1 ds) M := by
  obtain ⟨p, rfl, hM, hq⟩ := h
  refine ⟨by show 0 ≤ sizeLine; decide, fun a1 h1 => ⟨_, rfl, p, AD.bk, [], [], _, _, rfl, ?_, rfl, by decide, rfl, .new (by simp), ?_⟩⟩
  · rw [mput_ne (fun e : p = a1 => by rw [e, h1] at hM; cases hM)]; exact hM
  have n1 : p ≠ a1 := fun e => by rw [e, h1] at hM; cases hM
  refine fun a2 h2 => ⟨_, rfl, p, AD.bk, ["points"], [.ref a1], _, _, rfl, ?_, rfl, by decide, rfl, .new (by decide), ?_⟩
  · rw [mput_ne (fun e : p = a2 => by rw [← e, mput_same] at h2; cases h2), mput_same]; rfl
  have n2 : p ≠ a2 := fun e => by rw [← e, mput_same] at h2; cases h2
  rw [mput_ne n2.symm] at h2
  have n21 : a2 ≠ a1 := fun e => by rw [e, mput_same] at h2; cases h2
  rw [mput_ne n21] at h2
  refine ⟨by show 0 ≤ sizeLine; decide, fun a3 h3 => ⟨_, rfl, p, AD.bk, ["points", "approximations"], [.ref a1, .ref a2], _, _, rfl, ?_, rfl, by decide, rfl, .new (by decide), ?_⟩⟩
  · rw [mput_ne (fun e : p = a3 => by rw [← e, mput_same] at h3; cases h3), mput_same]; rfl
  have n3 : p ≠ a3 := fun e => by rw [← e, mput_same] at h3; cases h3
  rw [mput_ne n3.symm] at h3
  have n32 : a3 ≠ a2 := fun e => by rw [e, mput_same] at h3; cases h3
  rw [mput_ne n32, mput_ne n3.symm] at h3
  have n31 : a3 ≠ a1 := fun e => by rw [e, mput_same] at h3; cases h3
  rw [mput_ne n31] at h3
  refine hq a1 a2 a3 _ ⟨mput_same, ?_, ?_, ?_, n31.symm⟩ (fun a o ha e => ?_) h1 h2 h3
  · rw [mput_ne n1.symm, mput_ne n31.symm, mput_ne n1.symm, mput_ne n21.symm, mput_ne n1.symm, mput_same]; rfl
  · rw [mput_ne n2.symm, mput_ne n32.symm, mput_ne n2.symm, mput_same]; rfl
  · rw [mput_ne n3.symm, mput_same]; rfl
  · have e1 : a ≠ a1 := fun z => by rw [z, h1] at e; cases e
    have e2 : a ≠ a2 := fun z => by rw [z, h2] at e; cases e
    have e3 : a ≠ a3 := fun z => by rw [z, h3] at e; cases e
    rw [mput_ne ha, mput_ne e3, mput_ne ha, mput_ne e2, mput_ne ha, mput_ne e1]; exact e
/-! the law's own model of a book -/
structure MdAt (m nr : Addr) (ks : List Str) (xs : List D) (b : Bk) (M : Mem) : Prop where
  at_ : M m = some (.dic ["points", "near", "readings"] [.lst (b.pts.map D.str), .ref nr, .lst (b.rds.map rowD)])
  nrAt : M nr = some (.dic ks xs)
  get : ∀ n q, getK b.pts b.near n = some q → getK ks xs n = some (pairD q)
  ne : nr ≠ m
  len : ks.length = xs.length
/-- but at m what stands stays -/
def KpX (m : Addr) (M M' : Mem) : Prop := ∀ a o, a ≠ m → M a = some o → M' a = some o
theorem KpX.refl {m : Addr} {M : Mem} : KpX m M M := fun _ _ _ h => h
theorem KpX.trans {m : Addr} {M M1 M2 : Mem} (h : KpX m M M1) (k : KpX m M1 M2) : KpX m M M2 := fun a o n e => k a o n (h a o n e)
theorem KpX.put {m : Addr} {M M1 : Mem} {o : MO} (h : KpX m M M1) : KpX m M (mput M1 m o) := fun a u n e => by rw [mput_ne n]; exact h a u n e
theorem KpX.new {m p : Addr} {M : Mem} {o : MO} (hp : M p = none) : KpX m M (mput M p o) := fun a u n e => by rw [mput_ne (fun z : a = p => by rw [z, hp] at e; cases e)]; exact e
theorem MdAt.kp {m nr ks xs b M M'} (h : MdAt m nr ks xs b M) (k : KpX m M M') (e : M' m = M m) : MdAt m nr ks xs b M' := ⟨e.trans h.at_, k _ _ h.ne h.nrAt, h.get, h.ne, h.len⟩
theorem MdAt.rds {m nr ks xs b M} (h : MdAt m nr ks xs b M) (l : List Rdg) : MdAt m nr ks xs ⟨b.pts, b.near, l⟩ (mput M m (.dic ["points", "near", "readings"] [.lst (b.pts.map D.str), .ref nr, .lst (l.map rowD)])) := ⟨mput_same, by rw [mput_ne h.ne]; exact h.nrAt, h.get, h.ne, h.len⟩
/-- what is due of a deed -/
def Due (m nr : Addr) (ks : List Str) (xs : List D) (b : Bk) (r : Res) (M : Mem) (Q : DK) : Prop := match r with
  | .error (e, t) => ∀ M', KpX m M M' → MdAt m nr ks xs b M' → Q (.tup [.str e.wd, .str t]) M'
  | .ok b' => ∀ nr' ks' xs' M', MdAt m nr' ks' xs' b' M' → ks'.length ≤ ks.length + 1 → (nr' = nr ∨ M nr' = none) → KpX m M M' → Q .non M'
/-- words compared -/
theorem wdE {x y : Str} {R : Bool → Prop} (h : R (decide (x = y))) : ∀ k : Bool, (k = true ↔ D.str x = D.str y) → R k := eS h
theorem setKA_get {α : Type} {n j : Str} {y : α} {ks : List Str} {xs : List α} (hl : ks.length = xs.length) (hm : n ∈ ks) : getK ks (setK ks xs n y) j = if j = n then some y else getK ks xs j := by
  induction ks generalizing xs with
  | nil => cases hm
  | cons k ks ih =>
    cases xs with
    | nil => cases hl
    | cons x xs =>
      show (if k = j then some (if k = n then y else x) else getK ks (setK ks xs n y) j) = if j = n then some y else if k = j then some x else getK ks xs j
      by_cases e : k = j
      · rw [if_pos e, if_pos e]
        by_cases e2 : k = n
        · rw [if_pos e2, if_pos (by rw [← e, e2])]
        · rw [if_neg e2, if_neg (by rw [← e]; exact e2)]
      · rw [if_neg e, if_neg e]
        by_cases hn : n ∈ ks
        · exact ih (by simpa using hl) hn
        · have ek : n = k := by rcases List.mem_cons.mp hm with h | h; exact h; exact absurd h hn
          have hj : j ≠ n := fun z => e (by rw [z, ek])
          rw [if_neg hj]
          have : ∀ (ks : List Str) (xs : List α), n ∉ ks → ks.length = xs.length → setK ks xs n y = xs := by
            intro ks
            induction ks with
            | nil => intro xs _ h; cases xs with
              | nil => rfl
              | cons _ _ => cases h
            | cons k ks ih2 => intro xs hn h; cases xs with
              | nil => cases h
              | cons x xs =>
                show (if k = n then y else x) :: setK ks xs n y = _
                rw [if_neg (fun z => hn (by rw [z]; exact List.mem_cons_self)), ih2 xs (fun m => hn (List.mem_cons_of_mem _ m)) (by simpa using h)]
          rw [this ks xs hn (by simpa using hl)]
theorem putD_any {n : Str} {y : D} {ks : List Str} {xs : List D} (hl : ks.length = xs.length) : ∃ ks' xs', putD ks xs n y = .dic ks' xs' ∧ (ks'.length ≤ ks.length + 1 ∧ ks'.length = xs'.length) ∧ ∀ j, getK ks' xs' j = if n = j then some y else getK ks xs j := by
  unfold putD
  by_cases c : n ∈ ks
  · rw [if_pos c]
    refine ⟨_, _, rfl, ⟨by omega, by rw [setK_len n y hl]; exact hl⟩, fun j => ?_⟩
    rw [setKA_get hl c]
    by_cases e : n = j
    · rw [if_pos e, if_pos e.symm]
    · rw [if_neg e, if_neg (fun z => e z.symm)]
  · rw [if_neg c]
    exact ⟨_, _, rfl, ⟨by rw [List.length_append, List.length_singleton]; omega, by rw [List.length_append, List.length_append, hl]; rfl⟩, fun j => getK_snoc hl c⟩
theorem putD_get {n : Str} {q : Rat} {b : Bk} {ks : List Str} {xs : List D} (hl : ks.length = xs.length) (lb : b.pts.length = b.near.length) (c : n ∉ b.pts) (g : ∀ n q, getK b.pts b.near n = some q → getK ks xs n = some (pairD q)) :
    ∃ ks' xs', putD ks xs n (pairD q) = .dic ks' xs' ∧ (ks'.length ≤ ks.length + 1 ∧ ks'.length = xs'.length) ∧ ∀ j p, getK (b.pts ++ [n]) (b.near ++ [q]) j = some p → getK ks' xs' j = some (pairD p) := by
  obtain ⟨ks', xs', e, l, h⟩ := putD_any (n := n) (y := pairD q) hl
  refine ⟨ks', xs', e, l, fun j p hj => ?_⟩
  rw [getK_snoc lb c] at hj
  rw [h j]
  by_cases z : n = j
  · rw [if_pos z] at hj ⊢; cases hj; rfl
  · rw [if_neg z] at hj ⊢; exact g j p hj
theorem putD_set {n : Str} {q : Rat} {b : Bk} {ks : List Str} {xs : List D} (hl : ks.length = xs.length) (lb : b.pts.length = b.near.length) (g : ∀ n q, getK b.pts b.near n = some q → getK ks xs n = some (pairD q)) :
    ∃ ks' xs', putD ks xs n (pairD q) = .dic ks' xs' ∧ (ks'.length ≤ ks.length + 1 ∧ ks'.length = xs'.length) ∧ ∀ j p, getK b.pts (setK b.pts b.near n q) j = some p → getK ks' xs' j = some (pairD p) := by
  obtain ⟨ks', xs', e, l, h⟩ := putD_any (n := n) (y := pairD q) hl
  refine ⟨ks', xs', e, l, fun j p hj => ?_⟩
  rw [h j]
  rcases getK_setK hj with ⟨e1, e2⟩ | ⟨e1, e2⟩
  · rw [if_pos e1.symm, e2]
  · rw [if_neg (fun z => e1 z.symm)]; exact g j p e2
theorem lc_keep {M : Mem} {Q : List D → Mem → Prop} {δ : DS0} {i : Nat} (n : Str) (sn : SO n) (hd : ∀ z, (δ.set i (some z))[1]? = some (some (.tup [.str "remove", .str n]))) (hi : i < δ.length) : ∀ (xs : List Str) (acc : List D), (∀ x, x ∈ xs → SO x) → acc.length + xs.length ≤ sizeLine → Q (acc ++ (xs.filter fun k => !decide (k = n)).map D.str) M →
    dLcL always (gNm i) (dTst (dOp rNeP (dVar i) (dOp rIxD (dVar 1) (dC (.int 1))))) (dVar i) δ (xs.map D.str) acc M Q
  | [], acc, _, _, q => ⟨trivial, by simpa using q⟩
  | x :: xs, acc, sx, hl, q => by
    rw [List.length_cons] at hl
    have e0 : (δ.set i (some (D.str x)))[i]? = some (some (.str x)) := by rw [List.getElem?_set_self hi]
    refine ⟨trivial, by omega, _, e0, _, hd _, 1, rfl, _, rfl, .inl ⟨sx x List.mem_cons_self, sn, nS ⟨_, rfl, ?_⟩⟩⟩
    rw [List.filter_cons] at q
    by_cases c : x = n
    · rw [decide_eq_true c] at q ⊢
      refine ite_f (lc_keep n sn hd hi xs acc (fun y hy => sx y (List.mem_cons_of_mem _ hy)) (by omega) q)
    · rw [decide_eq_false c] at q ⊢
      refine ite_t ⟨_, e0, lc_keep n sn hd hi xs _ (fun y hy => sx y (List.mem_cons_of_mem _ hy)) (by rw [List.length_append, List.length_singleton]; omega) ?_⟩
      rw [List.append_assoc]; exact q
/-! coefficients of a reading -/
def coef (t : List (Str × Int)) (n : Str) : Int := (getK (t.map Prod.fst) (t.map Prod.snd) n).getD 0
theorem trm_pairs (t : List (Str × Int)) : trmsD t = .tup ((t.map fun x => (x.1, D.int x.2)).map pairT) := by
  unfold trmsD; rw [List.map_map]; rfl
theorem fst_pairs (t : List (Str × Int)) : (t.map fun x => (x.1, D.int x.2)).map Prod.fst = t.map Prod.fst := by rw [List.map_map]; rfl
theorem snd_pairs (t : List (Str × Int)) : (t.map fun x => (x.1, D.int x.2)).map Prod.snd = (t.map Prod.snd).map D.int := by rw [List.map_map, List.map_map]; rfl
theorem coef_sum {n : Str} : ∀ {t : List (Str × Int)}, (t.map Prod.fst).Nodup → ((t.filter fun x => decide (x.1 = n)).map Prod.snd).sum = coef t n
  | [], _ => rfl
  | x :: t, nd => by
    obtain ⟨n1, n2⟩ := List.nodup_cons.mp nd
    have ih := coef_sum (n := n) n2
    rw [List.filter_cons]
    show _ = (if x.1 = n then some x.2 else getK (t.map Prod.fst) (t.map Prod.snd) n).getD 0
    by_cases e : x.1 = n
    · rw [decide_eq_true e, if_pos rfl, if_pos e]
      have : (t.filter fun x => decide (x.1 = n)) = [] := List.filter_eq_nil_iff.mpr fun y hy => by
        rw [decide_eq_true_iff]
        exact fun z => n1 (by rw [e, ← z]; exact List.mem_map_of_mem hy)
      rw [this]
      show x.2 + 0 = x.2
      omega
    · rw [decide_eq_false e, if_neg Bool.false_ne_true, if_neg e]; exact ih
theorem lt_trans_nat : ∀ {a b c : List Nat}, a < b → b < c → a < c := fun h1 h2 => List.lt_trans h1 h2
theorem fitG_lt {b : Str} : ∀ {t : List (Str × Int)}, fitG b t = true → (∀ x, x ∈ t → b.cps.toList < x.1.cps.toList) ∧ (t.map Prod.fst).Nodup
  | [], _ => ⟨fun x h => (nomatch h), List.nodup_nil⟩
  | (n, c) :: t, h => by
    have h : (!decide (c = 0) && (decide (-9 ≤ c) && (decide (c ≤ 9) && (ltS b n && fitG n t)))) = true := h
    simp only [Bool.and_eq_true] at h
    obtain ⟨_, _, _, h4, h5⟩ := h
    have h4 : b.cps.toList < n.cps.toList := of_decide_eq_true h4
    obtain ⟨g1, g2⟩ := fitG_lt h5
    refine ⟨fun x hx => ?_, List.nodup_cons.mpr ⟨fun m => ?_, g2⟩⟩
    · rcases List.mem_cons.mp hx with e | hx
      · rw [e]; exact h4
      · exact lt_trans_nat h4 (g1 x hx)
    · obtain ⟨x, hx, e⟩ := List.mem_map.mp m
      have := g1 x hx
      rw [e] at this
      exact absurd this (List.lt_irrefl _)
theorem fits_nodup {t : List (Str × Int)} (h : fits t = true) : (t.map Prod.fst).Nodup := by
  unfold fits at h
  rw [Bool.and_eq_true] at h
  exact (fitG_lt h.1).2
def FitOk (b : Bk) : Prop := ∀ r, r ∈ b.rds → fits r.terms = true
theorem FitOk.stp {b b' : Bk} {d : Dd} (h : FitOk b) (e : stp b d = .ok b') : FitOk b' := by
  cases d with
  | point n q =>
    have e : addP b n q = .ok b' := e
    unfold addP at e
    split at e
    · cases e
    · split at e
      · cases e
      · cases e; exact h
  | reading r =>
    have e : addR b r = .ok b' := e
    unfold addR at e
    split at e
    · cases e
    · split at e
      · rename_i hf
        split at e
        · cases e
        · split at e
          · cases e
          · split at e
            · cases e
            · cases e
              intro s hs
              rcases List.mem_append.mp hs with hs | hs
              · exact h s hs
              · rw [List.mem_singleton.mp hs]; exact hf
      · cases e
  | appr n q =>
    have e : chA b n q = .ok b' := e
    unfold chA at e
    split at e
    · cases e; exact h
    · cases e
  | value n q =>
    have e : chV b n q = .ok b' := e
    unfold chV at e
    split at e
    · cases e
    · rename_i i r hp
      cases e
      intro s hs
      rcases List.mem_or_eq_of_mem_set hs with hs | hs
      · exact h s hs
      · rw [hs]; exact h r (List.mem_of_getElem? (plc_some hp).1)
  | weight n q =>
    have e : chW b n q = .ok b' := e
    unfold chW at e
    split at e
    · cases e
    · rename_i i r hp
      split at e
      · cases e
      · cases e
        intro s hs
        rcases List.mem_or_eq_of_mem_set hs with hs | hs
        · exact h s hs
        · rw [hs]; exact h r (List.mem_of_getElem? (plc_some hp).1)
  | withdraw n =>
    have e : wdr b n = .ok b' := e
    unfold wdr at e
    split at e
    · cases e
    · cases e; exact fun s hs => h s (List.mem_of_mem_eraseIdx hs)
  | remove n =>
    have e : rmP b n = .ok b' := e
    unfold rmP at e
    split at e
    · split at e
      · cases e
      · cases e; exact h
    · cases e
/-- what stands stays -/
def KpA (M M' : Mem) : Prop := ∀ a o, M a = some o → M' a = some o
theorem KpA.refl {M : Mem} : KpA M M := fun _ _ h => h
theorem KpA.trans {M M1 M2 : Mem} (h : KpA M M1) (k : KpA M1 M2) : KpA M M2 := fun a o e => k a o (h a o e)
theorem KpA.new {p : Addr} {M : Mem} {o : MO} (hp : M p = none) : KpA M (mput M p o) := fun a u e => by rw [mput_ne (fun z : a = p => by rw [z, hp] at e; cases e)]; exact e
theorem getK_idx {α : Type} : ∀ {ks : List Str} {xs : List α} {i : Nat}, ks.Nodup → (hl : ks.length = xs.length) → (h : i < ks.length) → getK ks xs ks[i] = some (xs[i]'(by omega))
  | k :: ks, x :: xs, 0, _, _, _ => if_pos rfl
  | k :: ks, x :: xs, i + 1, nd, hl, h => by
    obtain ⟨n1, n2⟩ := List.nodup_cons.mp nd
    have h' : i < ks.length := by simpa using h
    have h2 : i < xs.length := by have : ks.length = xs.length := by simpa using hl
                                  omega
    show (if k = ks[i] then some x else getK ks xs ks[i]) = some (xs[i]'h2)
    rw [if_neg (fun e => n1 (by rw [e]; exact List.getElem_mem h')), getK_idx n2 (by simpa using hl) h']
  | [], _, _, _, _, h => absurd h (Nat.not_lt_zero _)
  | k :: ks, [], _, _, hl, _ => by cases hl
def sp_Book_twin_083b (AD : Ad) : DSp := fun ds M Q _ => ∃ (p a1 a2 a3 : Addr) (b : Bk), ds = [.ref p] ∧ BkAt AD p a1 a2 a3 b M ∧ BkOk b ∧ ∀ p' c1 c2 c3 M', BkAt AD p' c1 c2 c3 b M' → KpA M M' → M p' = none → M c1 = none → M c2 = none → M c3 = none → Q (.ref p') M'
def w_Book_twin_083b (AD : Ad) (E : DXS) : DSt :=
  (dSeq (dSet 1 (dMkR AD.bk (sp_Book___init__ AD) dNil))
  (dSeq (dFor (dIt (dFld (· = AD.bk) "points" (dVar 0))) (gNm 2)
  (dDrop (dMethC AD.bk "add_point" (sp_Book_add_point_7c4f AD) E (dVar 1) (dCons (dVar 2) (dCons (dDGet (dFld (· = AD.bk) "approximations" (dVar 0)) (dVar 2)) dNil)))))
  (dSeq (dDrop (dExt (dFld (· = AD.bk) "readings" (dVar 1)) (dCons (dFld (· = AD.bk) "readings" (dVar 0)) dNil)))
  (dRet (dVar 1)))))
theorem rd_Book_twin_083b (AD : Ad) (ds M Q E) (h : sp_Book_twin_083b AD ds M Q E) : w_Book_twin_083b AD (fun C ns fs _ M' => E C ns fs M') { nx := fun _ M' => Q .non M', rt := Q } (startD 3 ds) M := by
  obtain ⟨p, a1, a2, a3, b, rfl, B, ok, hq⟩ := h
  intro p' hp'
  refine ⟨p', rfl, mput_same, fun c1 c2 c3 M1 B1 kp1 n1 n2 n3 => ⟨rfl, ?_⟩⟩
  have kpA1 : KpA M M1 := fun a o e => by
    have : a ≠ p' := fun z => by rw [z, hp'] at e; cases e
    exact kp1 a o this (by rw [mput_ne this]; exact e)
  have no : ∀ c, mput M p' (.ins AD.bk [] []) c = none → M c = none ∧ c ≠ p' := fun c hc => by
    have : c ≠ p' := fun z => by rw [z, mput_same] at hc; cases hc
    rw [mput_ne this] at hc; exact ⟨hc, this⟩
  obtain ⟨n1, _⟩ := no c1 n1
  obtain ⟨n2, _⟩ := no c2 n2
  obtain ⟨n3, _⟩ := no c3 n3
  have off : ∀ {M M2 : Mem}, KpA M M → ∀ {b' : Bk}, BkAt AD p a1 a2 a3 b M → (∀ c, (c = c1 ∨ c = c2 ∨ c = c3) → c ≠ p ∧ c ≠ a1 ∧ c ≠ a2 ∧ c ≠ a3) → Of3 c1 c2 c3 M M2 → BkAt AD p a1 a2 a3 b M2 := fun _ _ B hc o =>
    have f : ∀ {x}, (x ≠ c1 ∧ x ≠ c2 ∧ x ≠ c3) → _ = _ := fun {x} h => o x h.1 h.2.1 h.2.2
    have d1 := hc c1 (.inl rfl)
    have d2 := hc c2 (.inr (.inl rfl))
    have d3 := hc c3 (.inr (.inr rfl))
    ⟨(f ⟨d1.1.symm, d2.1.symm, d3.1.symm⟩).trans B.ins, (f ⟨d1.2.1.symm, d2.2.1.symm, d3.2.1.symm⟩).trans B.pts, (f ⟨d1.2.2.1.symm, d2.2.2.1.symm, d3.2.2.1.symm⟩).trans B.near, (f ⟨d1.2.2.2.symm, d2.2.2.2.symm, d3.2.2.2.symm⟩).trans B.rds, B.ne⟩
  have dis : ∀ c, (c = c1 ∨ c = c2 ∨ c = c3) → c ≠ p ∧ c ≠ a1 ∧ c ≠ a2 ∧ c ≠ a3 := fun c hc => by
    have hn : M c = none := by rcases hc with rfl | rfl | rfl <;> assumption
    exact ⟨(fun z => by rw [z, B.ins] at hn; cases hn), (fun z => by rw [z, B.pts] at hn; cases hn), (fun z => by rw [z, B.near] at hn; cases hn), (fun z => by rw [z, B.rds] at hn; cases hn)⟩
  have Bs1 : BkAt AD p a1 a2 a3 b M1 := ⟨kpA1 _ _ B.ins, kpA1 _ _ B.pts, kpA1 _ _ B.near, kpA1 _ _ B.rds, B.ne⟩
  refine ⟨_, rfl, _, _, _, _, .inr ⟨p, rfl, Bs1.ins⟩, rfl, rfl, _, Bs1.pts, ?_⟩
  refine dLoop_ind (fun rest δ M5 => ∃ (i : Nat) (a2' : Option D), i ≤ b.pts.length ∧ rest = (b.pts.drop i).map D.str ∧ BkAt AD p a1 a2 a3 b M5 ∧ BkAt AD p' c1 c2 c3 ⟨b.pts.take i, b.near.take i, []⟩ M5 ∧ KpA M M5 ∧ δ = [some (.ref p), some (.ref p'), a2']) ?_ ?_ _ _ _
    ⟨0, none, by omega, by rw [List.drop_zero], Bs1, B1, kpA1, rfl⟩
  · rintro d0 ys δ M5 K hK ⟨i, a2', hi, e, Bs, Bt, kp5, rfl⟩
    by_cases hlt : i < b.pts.length
    case neg => rw [List.drop_eq_nil_of_le (by omega)] at e; cases e
    rw [List.drop_eq_getElem_cons hlt] at e
    injection e with e1 e2
    subst e1; subst e2
    have hln : i < b.near.length := by rw [← ok.len]; exact hlt
    have hin : b.pts[i] ∈ b.pts := List.getElem_mem hlt
    have hgk : getK b.pts b.near b.pts[i] = some b.near[i] := getK_idx ok.nd ok.len hlt
    have okT : BkOk ⟨b.pts.take i, b.near.take i, []⟩ := ⟨fun n h => ok.so n (List.mem_of_mem_take h), fun r h => (nomatch h), ok.nd.sublist (List.take_sublist ..), by show (b.pts.take i).length = (b.near.take i).length; rw [List.length_take, List.length_take, ok.len], List.nodup_nil, by show (b.pts.take i).length ≤ 12; rw [List.length_take]; have := ok.few; omega, by show 0 ≤ 24; decide⟩
    refine ⟨Bs.pts, _, rfl, _, _, .inr ⟨p', rfl, Bt.ins⟩, by decide, _, rfl, _, rfl, _, _, _, _, .inr ⟨p, rfl, Bs.ins⟩, rfl, rfl, _, rfl, a2, _, _, b.pts[i], .rat b.near[i], rfl, rfl, Bs.near, by rw [getK_map, hgk]; rfl, .inr ⟨p', rfl, Bt.ins⟩, p', c1, c2, c3, _, b.pts[i], b.near[i], rfl, Bt, okT, ok.so _ hin, ?_⟩
    have hnot : b.pts[i] ∉ b.pts.take i := fun m => by
      obtain ⟨j, hj, ej⟩ := List.getElem_of_mem m
      rw [List.length_take] at hj
      rw [List.getElem_take] at ej
      have := (List.getElem_inj ok.nd).mp ej
      omega
    have hne : ¬ (b.pts.take i).length = 12 := by rw [List.length_take]; have := ok.few; omega
    show After AD p' c1 c2 c3 (addP ⟨b.pts.take i, b.near.take i, []⟩ b.pts[i] b.near[i]) M5 _ _
    rw [show addP ⟨b.pts.take i, b.near.take i, []⟩ b.pts[i] b.near[i] = .ok ⟨b.pts.take i ++ [b.pts[i]], b.near.take i ++ [b.near[i]], []⟩ by unfold addP; rw [if_neg hnot, if_neg hne]]
    intro M6 Bt6 o6
    refine hK _ _ ⟨i + 1, _, by omega, rfl, off (b' := b) KpA.refl Bs dis o6, ?_, fun a o e => ?_, rfl⟩
    · rw [List.take_add_one, List.take_add_one, List.getElem?_eq_getElem hlt, List.getElem?_eq_getElem hln]; exact Bt6
    · rw [o6 a (fun z => by rw [z, n1] at e; cases e) (fun z => by rw [z, n2] at e; cases e) (fun z => by rw [z, n3] at e; cases e)]
      exact kp5 a o e
  · rintro δ M5 ⟨i, a2', hi, e, Bs, Bt, kp5, rfl⟩
    have hi2 : i = b.pts.length := by
      have := congrArg List.length e
      rw [List.length_map, List.length_drop] at this
      have h0 : (0 : Nat) = b.pts.length - i := this
      omega
    subst hi2
    rw [List.take_length, ok.len, List.take_length] at Bt
    refine ⟨Bs.pts, _, rfl, _, _, _, _, .inr ⟨p', rfl, Bt.ins⟩, rfl, rfl, ⟨c3, _, rfl, Bt.rds⟩, _, rfl, _, _, _, _, .inr ⟨p, rfl, Bs.ins⟩, rfl, rfl, c3, a3, _, _, rfl, rfl, Bt.rds, Bs.rds, ?_, ?_⟩
    · show 0 + (b.rds.map (rdgD AD)).length ≤ sizeLine
      rw [List.length_map]; exact sz16 (by have := ok.fewR; omega)
    obtain ⟨B', o⟩ := Bt.setR b.rds
    refine ⟨_, rfl, hq p' c1 c2 c3 _ B' (fun a o' e => ?_) hp' n1 n2 n3⟩
    rw [mput_ne (fun z : a = c3 => by rw [z, n3] at e; cases e)]
    exact kp5 a o' e
def sp_law_is : DSp := fun ds M Q _ => ∃ p q : Rat, ds = [.rat p, pairD q] ∧ Q (.bl (decide (p = q))) M
def w_law_is : DSt :=
  (dSeq (dIf (dOr (dNot (dTru (dIsR (dVar 0)))) (dOr (dTru (dCB rIsi (dCons (dTop (dVar 0)) (dCons (dC (.ty "bool")) dNil)))) (dTru (dCB rIsi (dCons (dBot (dVar 0)) (dCons (dC (.ty "bool")) dNil))))))
  (dRet (dC (.bl false)))
  dNext)
  (dRet (dAndV (dCB rIsi (dCons (dTop (dVar 0)) (dCons (dC (.ty "int")) dNil))) (dOp rEqP (dCB rTup (dCons (dTop (dVar 0)) (dCons (dBot (dVar 0)) dNil))) (dVar 1)))))
theorem rd_law_is (ds M Q E) (h : sp_law_is ds M Q E) : w_law_is { nx := fun _ M' => Q .non M', rt := Q } (startD 2 ds) M := by
  obtain ⟨p, q, rfl, hq⟩ := h
  have no : ∀ i : Int, kitB "int" "bool" = some false := fun _ => by decide
  refine ⟨_, rfl, true, rfl, ite_f ?_⟩
  refine ⟨_, rfl, p, rfl, _, "bool", "int", false, rfl, rfl, by decide, false, rfl, ite_f ?_⟩
  refine ⟨_, rfl, p, rfl, _, "bool", "int", false, rfl, rfl, by decide, false, rfl, ite_f ?_⟩
  refine ⟨_, rfl, p, rfl, _, "int", "int", true, rfl, rfl, by decide, true, rfl, ite_t ?_⟩
  refine ⟨_, rfl, p, rfl, _, rfl, p, rfl, sz16 (show 2 ≤ 1000000 by decide), _, rfl, .inl ⟨rfl, rfl, fun t ht => ?_⟩⟩
  have e : t = decide (p = q) := by
    have : (t = true ↔ p = q) := ht.trans ⟨fun h => by
      injection h with h
      injection h with h1 h
      injection h with h2 h
      injection h1 with h1
      injection h2 with h2
      exact (q_eq p q).mpr ⟨h1, h2⟩, fun h => by rw [h]; rfl⟩
    by_cases h : p = q
    · rw [decide_eq_true h, this.mpr h]
    · rw [decide_eq_false h]
      cases t with
      | true => exact absurd (this.mp rfl) h
      | false => rfl
  rw [e]
  exact hq
def sp_law_reading_is (AD : Ad) : DSp := fun ds M Q _ => ∃ (r : Rdg), ds = [rdgD AD r, rowD r] ∧ RdgOk r ∧ Q (.bl true) M
def w_law_reading_is (AD : Ad) : DSt :=
  (dSeq (dIf (dOr (dTst (dOp rNeP (dFld (· = AD.rd) "name" (dVar 0)) (dOp rIxD (dVar 1) (dC (.int 0))))) (dOr (dTst (dOp rNeP (dFld (· = AD.rd) "terms" (dVar 0)) (dOp rIxD (dVar 1) (dC (.int 1))))) (dNot (dTru (dCB rIsi (dCons (dFld (· = AD.rd) "terms" (dVar 0)) (dCons (dC (.ty "tuple")) dNil)))))))
  (dRet (dC (.bl false)))
  dNext)
  (dRet (dAndV (dCall sp_law_is (dCons (dFld (· = AD.rd) "value" (dVar 0)) (dCons (dOp rIxD (dVar 1) (dC (.int 2))) dNil))) (dCall sp_law_is (dCons (dFld (· = AD.rd) "weight" (dVar 0)) (dCons (dOp rIxD (dVar 1) (dC (.int 3))) dNil))))))
theorem pl_trms {r : Rdg} {n : Nat} (h : RdgOk r) : plD (trmsD r.terms) (n + 2) = true := by
  show plDs (r.terms.map trmD) (n + 1) = true
  have h := h.tm
  generalize r.terms = t at h
  induction t with
  | nil => rfl
  | cons x t ih =>
    show ((plD (.str x.1) n && (true && true)) && plDs (t.map trmD) (n + 1)) = true
    rw [ih fun y hy => h y (List.mem_cons_of_mem _ hy), show plD (.str x.1) n = true from h x List.mem_cons_self]; rfl
theorem rd_law_reading_is (AD : Ad) (ds M Q E) (h : sp_law_reading_is AD ds M Q E) : w_law_reading_is AD { nx := fun _ M' => Q .non M', rt := Q } (startD 2 ds) M := by
  obtain ⟨r, rfl, ok, hq⟩ := h
  refine ⟨_, rfl, _, _, _, _, .inl rfl, rfl, rfl, _, rfl, 0, rfl, _, rfl, .inl ⟨ok.nm, ok.nm, nS ⟨_, rfl, ?_⟩⟩⟩
  rw [decide_eq_true rfl]
  refine ite_f ⟨_, rfl, _, _, _, _, .inl rfl, rfl, rfl, _, rfl, 1, rfl, _, rfl, .inl ⟨pl_trms ok, pl_trms ok, fun k hk => ⟨k, rfl, ?_⟩⟩⟩
  have : k = false := by
    cases k with
    | true => exact absurd rfl (hk.mp rfl)
    | false => rfl
  subst this
  refine ite_f ⟨_, rfl, _, _, _, _, .inl rfl, rfl, rfl, _, "tuple", "tuple", true, rfl, rfl, by decide, true, rfl, ite_f ?_⟩
  refine ⟨_, rfl, _, _, _, _, .inl rfl, rfl, rfl, _, rfl, 2, rfl, _, rfl, _, _, rfl, _, rfl, ?_⟩
  rw [decide_eq_true rfl]
  refine ite_t ⟨_, rfl, _, _, _, _, .inl rfl, rfl, rfl, _, rfl, 3, rfl, _, rfl, _, _, rfl, ?_⟩
  rw [decide_eq_true rfl]
  exact hq
/-! vectors of fractions -/
def ratsD (xs : List Rat) : List D := xs.map D.rat
def vecD (xs : List Rat) : D := .tup (ratsD xs)
def Bts (n : Nat) (xs : List Rat) : Prop := ∀ x, x ∈ xs → Bt n x
theorem Bts.mono {n m : Nat} {xs : List Rat} (h : Bts n xs) (k : n ≤ m) : Bts m xs := fun x hx => (h x hx).mono k
theorem Bt.sm {n : Nat} {q : Rat} (h : Bt n q) (k : n ≤ 4096) : Sm q := h.mono (Nat.le_trans k (by decide))
theorem Bt.smW {n : Nat} {q : Rat} (h : Bt n q) (k : n ≤ 16000000) : Sm q := h.mono k
def dotR : List Rat → List Rat → Rat
  | x :: xs, y :: ys => x * y + dotR xs ys
  | _, _ => 0
def mapR2 (f : Rat → Rat → Rat) : List Rat → List Rat → List Rat
  | x :: xs, y :: ys => f x y :: mapR2 f xs ys
  | _, _ => []
theorem mapR2_len {f : Rat → Rat → Rat} : ∀ xs ys : List Rat, xs.length = ys.length → (mapR2 f xs ys).length = xs.length
  | [], _, _ => rfl
  | _ :: _, [], h => by cases h
  | x :: xs, y :: ys, h => by
    show (mapR2 f xs ys).length + 1 = _
    rw [mapR2_len xs ys (by simpa using h)]; rfl
theorem mapR2_get {f : Rat → Rat → Rat} : ∀ {xs ys : List Rat} {i : Nat} {a b : Rat}, xs[i]? = some a → ys[i]? = some b → (mapR2 f xs ys)[i]? = some (f a b)
  | x :: xs, y :: ys, 0, a, b, h1, h2 => by simp at h1 h2; subst h1; subst h2; rfl
  | x :: xs, y :: ys, i + 1, a, b, h1, h2 => by
    show (mapR2 f xs ys)[i]? = _
    exact mapR2_get (by simpa using h1) (by simpa using h2)
  | [], _, _, _, _, h, _ => by simp at h
  | _ :: _, [], _, _, _, _, h => by simp at h
theorem ratsD_len (xs : List Rat) : (ratsD xs).length = xs.length := List.length_map ..
theorem ratsD_get {xs : List Rat} {i : Nat} {q : Rat} (h : xs[i]? = some q) : (ratsD xs)[i]? = some (.rat q) := by unfold ratsD; rw [List.getElem?_map, h]; rfl
theorem ratsD_at {xs : List Rat} {k : Int} (h0 : 0 ≤ k) (h1 : k < xs.length) : ∃ q, xs[k.toNat]? = some q ∧ q ∈ xs ∧ atI (ratsD xs) k = some (.rat q) := by
  have hk : k.toNat < xs.length := by omega
  exact ⟨xs[k.toNat], List.getElem?_eq_getElem hk, List.getElem_mem hk, atI_nn h0 (ratsD_get (List.getElem?_eq_getElem hk))⟩
theorem gyes {j : Nat} {x : D} {δ : DS0} {M : Mem} {te : DE} {K : DK} {F : Mem → Prop} (h : te (δ.set j (some x)) M K) : gNm j x δ M fun δ2 M2 => dYes δ2 M2 fun b M3 => if b = true then te δ2 M3 K else F M3 := ite_t (B := F M) h
/-- a comprehension over zip of two vectors -/
theorem lc_zip {i j : Nat} {te : DE} {δ : DS0} {Q : List D → Mem → Prop} (f : Rat → Rat → Rat) (P : Rat → Rat → Prop) (h : ∀ x y M (K : DK), P x y → K (.rat (f x y)) M → te ((δ.set i (some (.rat x))).set j (some (.rat y))) M K) :
    ∀ (xs ys : List Rat) (acc : List D) M, (∀ x y, x ∈ xs → y ∈ ys → P x y) → acc.length + xs.length ≤ sizeLine → Q (acc ++ ratsD (mapR2 f xs ys)) M → dLcL always (gTu 2 (gsCons (gNm i) (gsCons (gNm j) gsNil))) dYes te δ (pairsD (ratsD xs) (ratsD ys)) acc M Q
  | [], ys, acc, M, _, _, q => ⟨trivial, by simpa [mapR2, ratsD] using q⟩
  | x :: xs, [], acc, M, _, _, q => ⟨trivial, by simpa [mapR2, ratsD] using q⟩
  | x :: xs, y :: ys, acc, M, hp, hl, q => by
    refine ⟨trivial, by rw [List.length_cons] at hl; omega, _, rfl, rfl, _, _, rfl, _, _, rfl, rfl, ?_⟩
    refine ite_t (B := dLcL always (gTu 2 (gsCons (gNm i) (gsCons (gNm j) gsNil))) dYes te δ (pairsD (ratsD xs) (ratsD ys)) acc M Q) (h x y M _ (hp x y List.mem_cons_self List.mem_cons_self) (lc_zip f P h xs ys _ M (fun a b ha hb => hp a b (List.mem_cons_of_mem _ ha) (List.mem_cons_of_mem _ hb)) ?_ ?_))
    · rw [List.length_append, List.length_singleton]; rw [List.length_cons] at hl; omega
    · rw [List.append_assoc]; exact q
/-- a comprehension over a range -/
theorem lc_rng {j : Nat} {te : DE} {δ : DS0} {Q : List D → Mem → Prop} (f : Nat → D) (h : ∀ (k : Nat) M (K : DK), K (f k) M → te (δ.set j (some (.int (k : Int)))) M K) :
    ∀ (n a : Nat) (acc : List D) M, acc.length + n ≤ sizeLine → Q (acc ++ (List.range' a n).map f) M → dLcL always (gNm j) dYes te δ ((List.range' a n).map fun (k : Nat) => D.int (k : Int)) acc M Q
  | 0, a, acc, M, _, q => ⟨trivial, by simpa using q⟩
  | n + 1, a, acc, M, hl, q => by
    refine ⟨trivial, by omega, ?_⟩
    refine ite_t (B := dLcL always (gNm j) dYes te δ ((List.range' (a + 1) n).map fun (k : Nat) => D.int (k : Int)) acc M Q) (h a M _ (lc_rng f h n (a + 1) _ M ?_ ?_))
    · rw [List.length_append, List.length_singleton]; omega
    · rw [List.append_assoc]; exact q
theorem rngD_eq (n : Nat) : rngD 0 (n : Int) = (List.range' 0 n).map fun (k : Nat) => D.int (k : Int) := by
  unfold rngD
  have e : ((n : Int) - 0).toNat = n := by omega
  rw [e, List.range_eq_range']
  exact List.map_congr_left fun k _ => by simp
theorem rats_mem {xs : List Rat} {d : D} (h : d ∈ ratsD xs) : ∃ q, q ∈ xs ∧ d = .rat q := by
  obtain ⟨q, hq, rfl⟩ := List.mem_map.mp h
  exact ⟨q, hq, rfl⟩
/-- over a range, with the place's bounds -/
theorem lc_rngB {j N : Nat} {te : DE} {δ : DS0} {Q : List D → Mem → Prop} (f : Nat → D) (h : ∀ (k : Nat) M (K : DK), k < N → K (f k) M → te (δ.set j (some (.int (k : Int)))) M K) :
    ∀ (n a : Nat) (acc : List D) M, a + n ≤ N → acc.length + n ≤ sizeLine → Q (acc ++ (List.range' a n).map f) M → dLcL always (gNm j) dYes te δ ((List.range' a n).map fun (k : Nat) => D.int (k : Int)) acc M Q
  | 0, a, acc, M, _, _, q => ⟨trivial, by simpa using q⟩
  | n + 1, a, acc, M, hN, hl, q => by
    refine ⟨trivial, by omega, ?_⟩
    refine ite_t (B := dLcL always (gNm j) dYes te δ ((List.range' (a + 1) n).map fun (k : Nat) => D.int (k : Int)) acc M Q) (h a M _ (by omega) (lc_rngB f h n (a + 1) _ M (by omega) ?_ ?_))
    · rw [List.length_append, List.length_singleton]; omega
    · rw [List.append_assoc]; exact q
/-- what a test leaves -/
theorem lc_filter {j : Nat} {tt : DT} {δ : DS0} {Q : List D → Mem → Prop} (keep : D → Bool) (P : D → Prop) (hj : j < δ.length) (h : ∀ x M (K : Bool → Mem → Prop), P x → K (keep x) M → tt (δ.set j (some x)) M K) :
    ∀ (xs acc : List D) M, (∀ x, x ∈ xs → P x) → acc.length + xs.length ≤ sizeLine → Q (acc ++ xs.filter keep) M → dLcL always (gNm j) tt (dVar j) δ xs acc M Q
  | [], acc, M, _, _, q => ⟨trivial, by simpa using q⟩
  | x :: xs, acc, M, hp, hl, q => by
    rw [List.length_cons] at hl
    refine ⟨trivial, by omega, h x M _ (hp x List.mem_cons_self) ?_⟩
    rw [List.filter_cons] at q
    cases hk : keep x with
    | true =>
      rw [hk, if_pos rfl] at q
      refine ite_t (B := dLcL always (gNm j) tt (dVar j) δ xs acc M Q) ⟨x, List.getElem?_set_self hj, lc_filter keep P hj h xs _ M (fun y hy => hp y (List.mem_cons_of_mem _ hy)) ?_ ?_⟩
      · rw [List.length_append, List.length_singleton]; omega
      · rw [List.append_assoc]; exact q
    | false =>
      rw [hk, if_neg Bool.false_ne_true] at q
      exact ite_f (lc_filter keep P hj h xs acc M (fun y hy => hp y (List.mem_cons_of_mem _ hy)) (by omega) q)
def sp_law_agrees (AD : Ad) : DSp := fun ds M Q _ => ∃ (p a1 a2 a3 m nr : Addr) (ks : List Str) (xs : List D) (b : Bk), ds = [.ref p, .ref m] ∧ BkAt AD p a1 a2 a3 b M ∧ MdAt m nr ks xs b M ∧ BkOk b ∧ Q (.bl true) M
def w_law_agrees (AD : Ad) : DSt :=
  (dSeq (dIf (dOr (dNot (dTru (dCB rIsi (dCons (dFld (· = AD.bk) "points" (dVar 0)) (dCons (dC (.ty "list")) dNil))))) (dTst (dOp rNeM (dFld (· = AD.bk) "points" (dVar 0)) (dDGet (dVar 1) (dC (.str "points"))))))
  (dRet (dC (.bl false)))
  dNext)
  (dSeq (dIf (dOr (dTst (dOp rNeP (dCB rLenK (dCons (dFld (· = AD.bk) "approximations" (dVar 0)) dNil)) (dCB rLen (dCons (dFld (· = AD.bk) "points" (dVar 0)) dNil)))) (dTst (dOp rNeP (dCB rLen (dCons (dFld (· = AD.bk) "readings" (dVar 0)) dNil)) (dCB rLen (dCons (dDGet (dVar 1) (dC (.str "readings"))) dNil)))))
  (dRet (dC (.bl false)))
  dNext)
  (dSeq (dFor (dIt (dFld (· = AD.bk) "points" (dVar 0))) (gNm 2)
  (dIf (dOr (dTst (dOp (rInK true) (dVar 2) (dFld (· = AD.bk) "approximations" (dVar 0)))) (dNot (dTru (dCall sp_law_is (dCons (dDGet (dFld (· = AD.bk) "approximations" (dVar 0)) (dVar 2)) (dCons (dDGet (dDGet (dVar 1) (dC (.str "near"))) (dVar 2)) dNil))))))
  (dRet (dC (.bl false)))
  dNext))
  (dSeq (dSet 3 (dDGet (dVar 1) (dC (.str "readings"))))
  (dRet (dOp rEqP (dCB rLen (dCons (dLc (dRng1 (dCons (dCB rLen (dCons (dVar 3) dNil)) dNil)) (gNm 4) (dNot (dTru (dCall (sp_law_reading_is AD) (dCons (dOp rIxD (dFld (· = AD.bk) "readings" (dVar 0)) (dVar 4)) (dCons (dOp rIxD (dVar 3) (dVar 4)) dNil))))) (dVar 4) [4]) dNil)) (dC (.int 0))))))))
theorem rd_law_agrees (AD : Ad) (ds M Q E) (h : sp_law_agrees AD ds M Q E) : w_law_agrees AD { nx := fun _ M' => Q .non M', rt := Q } (startD 5 ds) M := by
  obtain ⟨p, a1, a2, a3, m, nr, ks, xs, b, rfl, B, A, ok, hq⟩ := h
  have ff := ok.few
  have fr := ok.fewR
  refine ⟨_, rfl, _, _, _, _, .inr ⟨p, rfl, B.ins⟩, rfl, rfl, _, "list", "list", true, rfl, by simp only [tyD, B.pts], by decide, true, rfl, ite_f ?_⟩
  refine ⟨_, rfl, _, _, _, _, .inr ⟨p, rfl, B.ins⟩, rfl, rfl, _, rfl, m, _, _, _, _, rfl, rfl, A.at_, rfl, ?_⟩
  have ev : valM (.ref a1) M = .lst (b.pts.map D.str) := by simp only [valM, B.pts]
  refine ⟨by rw [ev]; exact pl_strs ok.so, pl_strs ok.so, fun k hk => ⟨k, rfl, ?_⟩⟩
  have : k = false := by
    cases k with
    | true => exact absurd ev (hk.mp rfl)
    | false => rfl
  subst this
  refine ite_f ?_
  refine ⟨_, rfl, _, _, _, _, .inr ⟨p, rfl, B.ins⟩, rfl, rfl, a2, _, _, rfl, B.near, _, rfl, _, _, _, _, .inr ⟨p, rfl, B.ins⟩, rfl, rfl, _, b.pts.length, rfl, ⟨_, B.pts, by rw [List.length_map]⟩, .inl ⟨rfl, rfl, nI ⟨_, rfl, ?_⟩⟩⟩
  rw [decide_eq_true rfl]
  refine ite_f ⟨_, rfl, _, _, _, _, .inr ⟨p, rfl, B.ins⟩, rfl, rfl, _, b.rds.length, rfl, ⟨_, B.rds, by rw [List.length_map]⟩, _, rfl, m, _, _, _, _, rfl, rfl, A.at_, rfl, _, b.rds.length, rfl, by show _ = (b.rds.map rowD).length; rw [List.length_map], .inl ⟨rfl, rfl, nI ⟨_, rfl, ?_⟩⟩⟩
  rw [decide_eq_true rfl]
  refine ite_f ⟨_, rfl, _, _, _, _, .inr ⟨p, rfl, B.ins⟩, rfl, rfl, _, B.pts, ?_⟩
  refine dLoop_ind (fun rest δ M5 => M5 = M ∧ ∃ (l : List Str) (a4 : Option D), rest = l.map D.str ∧ (∀ s, s ∈ l → s ∈ b.pts) ∧ δ = [some (.ref p), some (.ref m), a4, none, none]) ?_ ?_ _ _ _ ⟨rfl, b.pts, none, rfl, fun _ h => h, rfl⟩
  · rintro d0 ys δ M5 K hK ⟨rfl, l, a4, e, hs, rfl⟩
    cases l with
    | nil => cases e
    | cons n l =>
      injection e with e1 e2
      subst e1; subst e2
      have hin := hs n List.mem_cons_self
      obtain ⟨q, hg⟩ := getK_ex ok.len hin
      refine ⟨B.pts, _, rfl, _, rfl, _, _, _, _, .inr ⟨p, rfl, B.ins⟩, rfl, rfl, n, a2, _, _, rfl, rfl, B.near, _, rfl, ?_⟩
      rw [decide_eq_true hin]
      refine ite_f ⟨_, rfl, _, _, _, _, .inr ⟨p, rfl, B.ins⟩, rfl, rfl, _, rfl, a2, _, _, n, .rat q, rfl, rfl, B.near, by rw [getK_map, hg]; rfl, _, rfl, m, _, _, _, _, rfl, rfl, A.at_, rfl, _, rfl, nr, ks, xs, n, _, rfl, rfl, A.nrAt, A.get n q hg, q, q, rfl, _, rfl, ?_⟩
      rw [decide_eq_true rfl]
      exact ite_f (hK _ _ ⟨rfl, l, _, rfl, fun s h => hs s (List.mem_cons_of_mem _ h), rfl⟩)
  · rintro δ M5 ⟨rfl, l, a4, e, hs, rfl⟩
    cases l with
    | cons x t => cases e
    | nil =>
      refine ⟨B.pts, _, rfl, m, _, _, _, _, rfl, rfl, A.at_, rfl, ?_⟩
      refine ⟨_, rfl, _, b.rds.length, rfl, by show _ = (b.rds.map rowD).length; rw [List.length_map], _, rfl, ⟨by omega, by omega⟩, ?_⟩
      rw [rngD_eq]
      refine dLcL_ind (fun rest acc M6 => M6 = M5 ∧ acc = [] ∧ ∃ (k i : Nat), k + i ≤ b.rds.length ∧ rest = (List.range' i k).map fun (k : Nat) => D.int (k : Int)) ?_ ?_ _ _ _ ⟨rfl, rfl, b.rds.length, 0, by omega, rfl⟩
      · rintro x zs acc M6 K hK ⟨rfl, rfl, k, i, hk, e⟩
        cases k with
        | zero => cases e
        | succ k =>
          rw [List.range'_succ] at e
          injection e with e1 e2
          subst e1; subst e2
          have hlt : i < b.rds.length := by omega
          have er : b.rds[i]? = some b.rds[i] := List.getElem?_eq_getElem hlt
          refine ⟨trivial, by decide, ?_⟩
          refine ⟨_, rfl, _, _, _, _, .inr ⟨p, rfl, B.ins⟩, rfl, rfl, _, rfl, (i : Int), rfl, _, rdgD AD b.rds[i], B.rds, atI_nn (by omega) (by rw [Int.toNat_natCast, List.getElem?_map, er]; rfl), _, rfl, _, rfl, (i : Int), rfl, rowD b.rds[i], atI_nn (by omega) (by rw [Int.toNat_natCast, List.getElem?_map, er]; rfl), b.rds[i], rfl, ok.ro _ (List.getElem_mem hlt), true, rfl, ite_f ?_⟩
          exact hK _ _ ⟨rfl, rfl, k, i + 1, by omega, rfl⟩
      · rintro acc M6 ⟨rfl, rfl, _⟩
        exact ⟨trivial, _, 0, rfl, rfl, .inl ⟨rfl, rfl, eI hq⟩⟩
def sp_law_draw_e832 : DSp := fun ds M Q _ => ∃ (ts : List Int) (k m : Int), ds = [.lst (dInts ts), .int k, .int m] ∧ TapeOk ts ∧ 0 ≤ k ∧ k < 2 ^ 60 ∧ 0 < m ∧ ∀ n : Int, 0 ≤ n → n < m → Q (.int n) M
def w_law_draw_e832 : DSt :=
  (dSeq (dIf (dTst (dOp rLt (dVar 1) (dCB rLen (dCons (dVar 0) dNil))))
  (dRet (dOp rMod (dCB rInt (dCons (dOp rIxD (dVar 0) (dVar 1)) dNil)) (dVar 2)))
  dNext)
  (dSeq (dSet 3 (dC (.int 1)))
  (dSeq (dIf (dTst (dOp rGt (dCB rLen (dCons (dVar 0) dNil)) (dC (.int 0))))
  (dSet 3 (dOp rIxD (dVar 0) (dOp rMod (dCB rInt (dCons (dVar 1) dNil)) (dCB rLen (dCons (dVar 0) dNil)))))
  dNext)
  (dRet (dOp rMod (dOp rMod (dCB rInt (dCons (dOp rAddP (dOp rMulI (dOp rMulI (dOp rAddP (dVar 3) (dVar 1)) (dOp rAddP (dVar 1) (dC (.int 3)))) (dC (.int 7919))) (dOp rMulI (dVar 1) (dC (.int 104729)))) dNil)) (dC (.int 65521))) (dVar 2))))))
theorem at_ints {ts : List Int} {k : Int} (h0 : 0 ≤ k) (h1 : k < ts.length) (ht : TapeOk ts) : ∃ t, atI (dInts ts) k = some (.int t) ∧ 0 ≤ t ∧ t < 2147483648 := by
  have hk : k.toNat < ts.length := by omega
  refine ⟨ts[k.toNat], atI_nn h0 ?_, ht.2 _ (List.getElem_mem hk)⟩
  unfold dInts
  rw [List.getElem?_map, List.getElem?_eq_getElem hk]
  rfl
theorem rd_law_draw_e832 (ds M Q E) (h : sp_law_draw_e832 ds M Q E) : w_law_draw_e832 { nx := fun _ M' => Q .non M', rt := Q } (startD 4 ds) M := by
  obtain ⟨ts, k, m, rfl, ht, h0, h1, hm, hq⟩ := h
  have hlen : ((dInts ts).length : Int) = ts.length := by unfold dInts; rw [List.length_map]
  have fin : ∀ z : Int, Q (.int (z.fmod m)) M := fun z => by
    rw [fmod_pos hm]
    exact hq _ (Int.emod_nonneg _ (by omega)) (Int.emod_lt_of_pos _ hm)
  refine ⟨_, rfl, _, rfl, _, _, rfl, rfl, trivial, _, rfl, ite_d (fun hlt => ?_) (fun hge => ?_)⟩
  · obtain ⟨t, e, _⟩ := at_ints h0 (by rw [hlen] at hlt; exact hlt) ht
    exact ⟨_, rfl, _, rfl, k, rfl, _, e, .inl ⟨_, rfl, _, rfl, by omega, fin _⟩⟩
  · have tail : ∀ u : Int, 0 ≤ u → u < 2147483648 → (dRet (dOp rMod (dOp rMod (dCB rInt (dCons (dOp rAddP (dOp rMulI (dOp rMulI (dOp rAddP (dVar 3) (dVar 1)) (dOp rAddP (dVar 1) (dC (.int 3)))) (dC (.int 7919))) (dOp rMulI (dVar 1) (dC (.int 104729)))) dNil)) (dC (.int 65521))) (dVar 2)))
        { nx := fun _ M' => Q .non M', rt := Q } [some (.lst (dInts ts)), some (.int k), some (.int m), some (.int u)] M := by
      intro u hu0 hu1
      exact ⟨_, rfl, _, rfl, _, rfl, mulL (by omega) (by omega), mulR (by decide) (by decide), _, rfl, mulR (by decide) (by decide), .inl ⟨_, rfl, (by decide : (65521 : Int) ≠ 0), _, rfl, by omega, fin _⟩⟩
    refine ⟨_, rfl, _, _, rfl, rfl, trivial, _, rfl, ite_d (fun hpos => ?_) (fun _ => ?_)⟩
    · refine ⟨_, rfl, _, rfl, .inl ⟨_, rfl, _, rfl, _, _, rfl, rfl, ?_, _, rfl, ?_⟩⟩
      · show ((dInts ts).length : Int) ≠ 0
        have : (0 : Int) < (dInts ts).length := hpos
        omega
      · have hp : (0 : Int) < (dInts ts).length := hpos
        rw [fmod_pos hp]
        obtain ⟨t, e, h2, h3⟩ := at_ints (Int.emod_nonneg k (show ((dInts ts).length : Int) ≠ 0 by omega)) (by have := Int.emod_lt_of_pos k hp; rw [hlen] at this ⊢; exact this) ht
        exact ⟨_, e, tail t h2 h3⟩
    · exact tail 1 (by decide) (by decide)
def sp_law_take_65a1 : DSp := fun ds M Q _ => ∃ (st : Addr) (b : Nat) (m : Int), ds = [.ref st, .int m] ∧ Lw st b M ∧ b ≤ 1000000000 ∧ 0 < m ∧ ∀ (n : Int) M', 0 ≤ n → n < m → Lw st (b + 1) M' → Off st M M' → Q (.int n) M'
def w_law_take_65a1 : DSt :=
  (dSeq (dAsg (dOp rAddP (dOp rIxD (dVar 0) (dC (.int 1))) (dC (.int 1))) (gSb (dVar 0) (dC (.int 1))))
  (dRet (dCall sp_law_draw_e832 (dCons (dOp rIxD (dVar 0) (dC (.int 0))) (dCons (dOp rIxD (dVar 0) (dC (.int 1))) (dCons (dVar 1) dNil))))))
theorem rd_law_take_65a1 (ds M Q E) (h : sp_law_take_65a1 ds M Q E) : w_law_take_65a1 { nx := fun _ M' => Q .non M', rt := Q } (startD 2 ds) M := by
  obtain ⟨st, b, m, rfl, ⟨ts, k, ht, h0, h1, e⟩, hb, hm, hq⟩ := h
  refine ⟨_, rfl, 1, rfl, _, _, e, rfl, _, rfl, st, _, 1, 1, rfl, rfl, e, rfl, ?_⟩
  rw [show ([D.lst (dInts ts), D.int k].set 1 (D.int (k + 1))) = [.lst (dInts ts), .int (k + 1)] from rfl]
  refine ⟨_, rfl, 0, rfl, _, _, mput_same, rfl, _, rfl, 1, rfl, _, _, mput_same, rfl, _, rfl, ts, k + 1, m, rfl, ht, by omega, by omega, hm, fun n h2 h3 => ?_⟩
  exact hq n _ h2 h3 ⟨ts, k + 1, ht, by omega, by omega, mput_same⟩ fun a ha => mput_ne ha
theorem take_at {i : Nat} {δ : DS0} {st : Addr} {b : Nat} {m : Int} {M : Mem} {Q : DK} (hi : δ[i]? = some (some (.ref st))) (hL : Lw st b M) (hm : 0 < m) (hb : b ≤ 1000000000) (k : ∀ (n : Int) M', 0 ≤ n → n < m → Lw st (b + 1) M' → Off st M M' → Q (.int n) M') : dCall sp_law_take_65a1 (dCons (dVar i) (dCons (dC (.int m)) dNil)) δ M Q := ⟨_, hi, st, b, m, rfl, hL, hb, hm, k⟩
def sp_Reading___init__ (AD : Ad) : DSp := fun ds M Q _ => ∃ (x : Addr) (n t v u : D), ds = [.ref x, n, t, v, u] ∧ M x = some (.ins AD.rd [] []) ∧ Q .non (mput M x (.ins AD.rd ["name", "terms", "value", "weight"] [n, t, v, u]))
def w_Reading___init__ (AD : Ad) : DSt :=
  (dSeq (dFldSet (· = AD.rd) "name" (dVar 0) (dVar 1))
  (dSeq (dFldSet (· = AD.rd) "terms" (dVar 0) (dVar 2))
  (dSeq (dFldSet (· = AD.rd) "value" (dVar 0) (dVar 3))
  (dFldSet (· = AD.rd) "weight" (dVar 0) (dVar 4)))))
theorem rd_Reading___init__ (AD : Ad) (ds M Q E) (h : sp_Reading___init__ AD ds M Q E) : w_Reading___init__ AD { nx := fun _ M' => Q .non M', rt := Q } (startD 5 ds) M := by
  obtain ⟨x, n, t, v, u, rfl, hM, hq⟩ := h
  refine ⟨_, rfl, _, rfl, x, AD.rd, [], [], _, _, rfl, hM, rfl, by decide, rfl, .new (by simp), ?_⟩
  refine ⟨_, rfl, _, rfl, x, AD.rd, _, _, _, _, rfl, mput_same, rfl, by decide, rfl, .new (by decide), ?_⟩
  refine ⟨_, rfl, _, rfl, x, AD.rd, _, _, _, _, rfl, mput_same, rfl, by decide, rfl, .new (by decide), ?_⟩
  refine ⟨_, rfl, _, rfl, x, AD.rd, _, _, _, _, rfl, mput_same, rfl, by decide, rfl, .new (by decide), ?_⟩
  rw [mput_mput, mput_mput, mput_mput]
  exact hq
theorem mdel_new {M : Mem} {x : Addr} {o : MO} (h : M x = none) : mdel (mput M x o) x = M := by
  funext a
  show (if a = x then none else if a = x then some o else M a) = M a
  by_cases e : a = x
  · rw [if_pos e, e, h]
  · rw [if_neg e, if_neg e]
/-- a reading, made and let go -/
theorem mkRd {AD : Ad} {t : DA} {δ : DS0} {M : Mem} {Q : DK} {r : Rdg} (ht : ∀ Q1 : List D → Mem → Prop, Q1 [.str r.name, trmsD r.terms, .rat r.value, .rat r.weight] M → t δ M Q1) (q : Q (rdgD AD r) M) : dMkZ AD.rd (sp_Reading___init__ AD) t δ M Q := by
  refine ht _ fun x hx => ⟨x, _, _, _, _, rfl, mput_same, rfl, _, _, mput_same, ?_⟩
  rw [mput_mput, mdel_new hx]
  exact q
def sp_Book_require_point (AD : Ad) : DSp := fun ds M Q Ex => ∃ (p a1 a2 a3 : Addr) (b : Bk) (n : Str), ds = [.ref p, .str n] ∧ BkAt AD p a1 a2 a3 b M ∧ (n ∈ b.pts → Q .non M) ∧ (n ∉ b.pts → Ex AD.up ["name"] [.str n] M)
def w_Book_require_point (AD : Ad) (E : DXS) : DSt :=
  (dIf (dTst (dOp (rInK true) (dVar 1) (dFld (· = AD.bk) "approximations" (dVar 0))))
  (dRaiseF AD.up "name" (dVar 1) E)
  dNext)
theorem rd_Book_require_point (AD : Ad) (ds M Q E) (h : sp_Book_require_point AD ds M Q E) : w_Book_require_point AD (fun C ns fs _ M' => E C ns fs M') { nx := fun _ M' => Q .non M', rt := Q } (startD 2 ds) M := by
  obtain ⟨p, a1, a2, a3, b, n, rfl, B, h1, h2⟩ := h
  refine ⟨_, rfl, _, rfl, _, _, _, _, .inr ⟨p, rfl, B.ins⟩, rfl, rfl, n, a2, _, _, rfl, rfl, B.near, _, rfl, ?_⟩
  by_cases c : n ∈ b.pts
  · rw [decide_eq_true c]; exact ite_f (h1 c)
  · rw [decide_eq_false c]; exact ite_t ⟨_, rfl, h2 c⟩
theorem len_pos {α : Type} (t : List α) (f : α → D) : decide ((0 : Int) < ((t.map f).length : Int)) = decide (0 < t.length) := by
  rw [List.length_map, Bool.eq_iff_iff, decide_eq_true_iff, decide_eq_true_iff]; omega
def sp_terms_fit : DSp := fun ds M Q _ => ∃ t : List (Str × Int), ds = [trmsD t] ∧ Q (.bl (fits t)) M
def w_terms_fit : DSt :=
  (dSeq (dSet 1 (dC (.str "")))
  (dSeq (dFor (dIt (dVar 0)) (gTu 2 (gsCons (gNm 2) (gsCons (gNm 3) gsNil)))
  (dSeq (dIf (dOr (dTst (dOp rEqP (dVar 3) (dC (.int 0)))) (dOr (dNot (dTst (dChain rLe rLe (dUn rNeg (dC (.int 9))) (dVar 3) (dC (.int 9))))) (dTst (dOp rLeS (dVar 2) (dVar 1)))))
  (dRet (dC (.bl false)))
  dNext)
  (dSet 1 (dVar 2))))
  (dRet (dOp rGt (dCB rLen (dCons (dVar 0) dNil)) (dC (.int 0))))))
theorem rd_terms_fit (ds M Q E) (h : sp_terms_fit ds M Q E) : w_terms_fit { nx := fun _ M' => Q .non M', rt := Q } (startD 4 ds) M := by
  obtain ⟨t, rfl, hq⟩ := h
  refine ⟨_, rfl, ?_⟩
  refine dLoop_ind (fun rest δ M5 => M5 = M ∧ ∃ (t' : List (Str × Int)) (b : Str) (a2 a3 : Option D), rest = t'.map trmD ∧ fits t = (fitG b t' && decide (0 < t.length)) ∧ δ = [some (trmsD t), some (.str b), a2, a3]) ?_ ?_ _ _ _ ⟨rfl, t, "", none, none, rfl, rfl, rfl⟩
  · rintro d0 xs δ M5 K hK ⟨rfl, t', b, a2, a3, e, hf, rfl⟩
    cases t' with
    | nil => cases e
    | cons x t' =>
      obtain ⟨n, c⟩ := x
      injection e with e1 e2
      subst e1; subst e2
      have bad : fitG b ((n, c) :: t') = false → Q (.bl false) M5 := fun z => by rw [hf, z] at hq; exact hq
      refine ⟨trivial, _, rfl, rfl, _, _, rfl, _, _, rfl, rfl, ?_⟩
      refine ⟨_, rfl, Or.inl ⟨rfl, rfl, eI ⟨_, rfl, ite_d (fun h0 => ite_t (bad ?_)) fun h0 => ?_⟩⟩⟩
      · rw [show fitG b ((n, c) :: t') = (!decide (c = 0) && _) from rfl, decide_eq_true h0]; rfl
      refine ⟨_, rfl, trivial, _, rfl, ite_d (fun h1 => ?_) fun h1 => ?_⟩
      · refine ⟨trivial, _, rfl, ?_⟩
        by_cases h2 : c ≤ 9
        · rw [decide_eq_true h2]
          refine ite_f ⟨_, rfl, _, rfl, _, _, rfl, rfl, _, rfl, ?_⟩
          by_cases h3 : ltS b n = true
          · rw [show decide (b.cps.toList < n.cps.toList) = true from h3]
            refine ite_f ⟨_, rfl, hK _ _ ⟨rfl, t', n, _, _, rfl, ?_, rfl⟩⟩
            rw [hf, show fitG b ((n, c) :: t') = (!decide (c = 0) && (decide (-9 ≤ c) && (decide (c ≤ 9) && (ltS b n && fitG n t')))) from rfl, decide_eq_false h0, decide_eq_true h1, decide_eq_true h2, h3]; rfl
          · rw [show decide (b.cps.toList < n.cps.toList) = false from Bool.eq_false_iff.mpr h3]
            refine ite_t (bad ?_)
            rw [show fitG b ((n, c) :: t') = (!decide (c = 0) && (decide (-9 ≤ c) && (decide (c ≤ 9) && (ltS b n && fitG n t')))) from rfl, Bool.eq_false_iff.mpr h3]; simp
        · rw [decide_eq_false h2]
          refine ite_t (ite_t (bad ?_))
          rw [show fitG b ((n, c) :: t') = (!decide (c = 0) && (decide (-9 ≤ c) && (decide (c ≤ 9) && (ltS b n && fitG n t')))) from rfl, decide_eq_false h2]; simp
      · refine ⟨_, rfl, ite_t (ite_t (bad ?_))⟩
        rw [show fitG b ((n, c) :: t') = (!decide (c = 0) && (decide (-9 ≤ c) && (decide (c ≤ 9) && (ltS b n && fitG n t')))) from rfl, decide_eq_false h1]; simp
  · rintro δ M5 ⟨rfl, t', b, a2, a3, e, hf, rfl⟩
    cases t' with
    | cons x t' => cases e
    | nil =>
      refine ⟨trivial, ⟨_, rfl, _, _, rfl, rfl, trivial, ?_⟩⟩
      show Q (.bl (decide ((0 : Int) < ((t.map trmD).length : Int)))) M5
      rw [len_pos, show decide (0 < t.length) = fits t from hf.symm]
      exact hq
def sp_Book_add_reading_3063 (AD : Ad) : DSp := fun ds M Q Ex => ∃ (p a1 a2 a3 : Addr) (b : Bk) (r : Rdg), ds = [.ref p, .str r.name, trmsD r.terms, .rat r.value, .rat r.weight] ∧ BkAt AD p a1 a2 a3 b M ∧ BkOk b ∧ RdgOk r ∧ After AD p a1 a2 a3 (addR b r) M Q Ex
def w_Book_add_reading_3063 (AD : Ad) (E : DXS) : DSt :=
  (dSeq (dFor (dIt (dFld (· = AD.bk) "readings" (dVar 0))) (gNm 5)
  (dIf (dTst (dOp rEqP (dFld (· = AD.rd) "name" (dVar 5)) (dVar 1)))
  (dRaiseF AD.dup "name" (dVar 1) E)
  dNext))
  (dSeq (dIf (dNot (dTru (dCall sp_terms_fit (dCons (dVar 2) dNil))))
  (dRaiseF AD.badr "reason" (dC (.str "terms")) E)
  dNext)
  (dSeq (dFor (dIt (dVar 2)) (gTu 2 (gsCons (gNm 6) (gsCons (gNm 7) gsNil)))
  (dDrop (dMethC AD.bk "require_point" (sp_Book_require_point AD) E (dVar 0) (dCons (dVar 6) dNil))))
  (dSeq (dIf (dTst (dOp rLe (dTop (dVar 4)) (dC (.int 0))))
  (dRaiseF AD.badr "reason" (dC (.str "weight")) E)
  dNext)
  (dSeq (dIf (dTst (dOp rEqP (dCB rLen (dCons (dFld (· = AD.bk) "readings" (dVar 0)) dNil)) (dC (.int 24))))
  (dRaiseF AD.lim "what" (dC (.str "readings")) E)
  dNext)
  (dDrop (dApp (dFld (· = AD.bk) "readings" (dVar 0)) (dCons (dMkZ AD.rd (sp_Reading___init__ AD) (dCons (dVar 1) (dCons (dVar 2) (dCons (dVar 3) (dCons (dVar 4) dNil))))) dNil))))))))
theorem rd_Book_add_reading_3063 (AD : Ad) (ds M Q E) (h : sp_Book_add_reading_3063 AD ds M Q E) : w_Book_add_reading_3063 AD (fun C ns fs _ M' => E C ns fs M') { nx := fun _ M' => Q .non M', rt := Q } (startD 8 ds) M := by
  obtain ⟨p, a1, a2, a3, b, r, rfl, B, ok, ro, hq⟩ := h
  refine ⟨_, rfl, _, _, _, _, .inr ⟨p, rfl, B.ins⟩, rfl, rfl, _, B.rds, ?_⟩
  by_cases c1 : r.name ∈ b.rds.map Rdg.name
  · unfold addR at hq
    rw [if_pos c1] at hq
    refine dLoop_ind (fun rest δ M5 => M5 = M ∧ ∃ (l : List Rdg) (a5 : Option D), rest = l.map (rdgD AD) ∧ (∀ s, s ∈ l → SO s.name) ∧ r.name ∈ l.map Rdg.name ∧ δ = [some (.ref p), some (.str r.name), some (trmsD r.terms), some (.rat r.value), some (.rat r.weight), a5, none, none]) ?_ ?_ _ _ _ ⟨rfl, b.rds, none, rfl, fun s hs => (ok.ro s hs).nm, c1, rfl⟩
    · rintro d0 xs δ M5 K hK ⟨rfl, l, a5, e, hs, hm, rfl⟩
      cases l with
      | nil => cases e
      | cons s l =>
        injection e with e1 e2
        subst e1; subst e2
        refine ⟨B.rds, _, rfl, _, _, _, _, .inl rfl, rfl, rfl, _, rfl, .inl ⟨hs s List.mem_cons_self, ro.nm, eS ⟨_, rfl, ite_d (fun h => ?_) fun h => ?_⟩⟩⟩
        · exact ⟨_, rfl, hq⟩
        · refine hK _ _ ⟨rfl, l, _, rfl, fun s hs2 => hs s (List.mem_cons_of_mem _ hs2), ?_, rfl⟩
          rcases List.mem_cons.mp hm with m | m
          · exact absurd m.symm h
          · exact m
    · rintro δ M5 ⟨rfl, l, a5, e, hs, hm, rfl⟩
      cases l with
      | cons x t' => cases e
      | nil => cases hm
  unfold addR at hq
  rw [if_neg c1] at hq
  refine dLoop_ind (fun rest δ M5 => M5 = M ∧ ∃ (l : List Rdg) (a5 : Option D), rest = l.map (rdgD AD) ∧ (∀ s, s ∈ l → SO s.name) ∧ r.name ∉ l.map Rdg.name ∧ δ = [some (.ref p), some (.str r.name), some (trmsD r.terms), some (.rat r.value), some (.rat r.weight), a5, none, none]) ?_ ?_ _ _ _ ⟨rfl, b.rds, none, rfl, fun s hs => (ok.ro s hs).nm, c1, rfl⟩
  · rintro d0 xs δ M5 K hK ⟨rfl, l, a5, e, hs, hm, rfl⟩
    cases l with
    | nil => cases e
    | cons s l =>
      injection e with e1 e2
      subst e1; subst e2
      refine ⟨B.rds, _, rfl, _, _, _, _, .inl rfl, rfl, rfl, _, rfl, .inl ⟨hs s List.mem_cons_self, ro.nm, eS ⟨_, rfl, ite_d (fun h => ?_) fun h => ?_⟩⟩⟩
      · exact absurd (h ▸ List.mem_cons_self) hm
      · exact hK _ _ ⟨rfl, l, _, rfl, fun s hs2 => hs s (List.mem_cons_of_mem _ hs2), fun m => hm (List.mem_cons_of_mem _ m), rfl⟩
  rintro δ M5 ⟨rfl, l, a5, e, hs, hm, rfl⟩
  refine ⟨B.rds, _, rfl, r.terms, rfl, _, rfl, ?_⟩
  by_cases c2 : fits r.terms = true
  · rw [if_pos c2] at hq
    rw [c2]
    refine ite_f ⟨_, rfl, ?_⟩
    have key : ∀ De : DEnds, De.rt = Q → (∀ (a6 a7 : Option D), unk b.pts r.terms = none → De.nx [some (.ref p), some (.str r.name), some (trmsD r.terms), some (.rat r.value), some (.rat r.weight), a5, a6, a7] M5) → dLoop always (gTu 2 (gsCons (gNm 6) (gsCons (gNm 7) gsNil))) (dDrop (dMethC AD.bk "require_point" (sp_Book_require_point AD) (fun C ns fs _ M' => E C ns fs M') (dVar 0) (dCons (dVar 6) dNil))) (r.terms.map trmD) De [some (.ref p), some (.str r.name), some (trmsD r.terms), some (.rat r.value), some (.rat r.weight), a5, none, none] M5 := fun De eD hn => by
      refine dLoop_ind (fun rest δ M6 => M6 = M5 ∧ ∃ (t : List (Str × Int)) (a6 a7 : Option D), rest = t.map trmD ∧ unk b.pts r.terms = unk b.pts t ∧ δ = [some (.ref p), some (.str r.name), some (trmsD r.terms), some (.rat r.value), some (.rat r.weight), a5, a6, a7]) ?_ ?_ _ _ _ ⟨rfl, r.terms, none, none, rfl, rfl, rfl⟩
      · rintro d0 xs δ M6 K hK ⟨rfl, t, a6, a7, e, hu, rfl⟩
        cases t with
        | nil => cases e
        | cons x t =>
          obtain ⟨n, c⟩ := x
          injection e with e1 e2
          subst e1; subst e2
          refine ⟨trivial, _, rfl, rfl, _, _, rfl, _, _, rfl, rfl, ?_⟩
          refine ⟨_, rfl, _, _, .inr ⟨p, rfl, B.ins⟩, by decide, _, rfl, .inr ⟨p, rfl, B.ins⟩, p, a1, a2, a3, b, n, rfl, B, fun hin => ?_, fun hin => ?_⟩
          · exact hK _ _ ⟨rfl, t, _, _, rfl, by rw [hu, show unk b.pts ((n, c) :: t) = unk b.pts t from if_pos hin], rfl⟩
          · rw [hu, show unk b.pts ((n, c) :: t) = some n from if_neg hin] at hq
            exact hq
      · rintro δ M6 ⟨rfl, t, a6, a7, e, hu, rfl⟩
        cases t with
        | cons x t => cases e
        | nil => exact ⟨trivial, hn a6 a7 hu⟩
    refine key _ rfl fun a6 a7 hu => ?_
    rw [hu] at hq
    have hq : After AD p a1 a2 a3 (if r.weight.num ≤ 0 then .error (.badr, "weight") else if b.rds.length = 24 then .error (.lim, "readings") else .ok ⟨b.pts, b.near, b.rds ++ [r]⟩) M5 Q E := hq
    refine ⟨_, rfl, r.weight, rfl, trivial, _, rfl, ite_d (fun h => ?_) fun h => ?_⟩
    · rw [if_pos h] at hq; exact hq
    rw [if_neg h] at hq
    refine ⟨_, rfl, _, _, _, _, .inr ⟨p, rfl, B.ins⟩, rfl, rfl, _, b.rds.length, rfl, ⟨_, B.rds, by rw [List.length_map]⟩, .inl ⟨rfl, rfl, eI ⟨_, rfl, ite_d (fun h => ?_) fun h => ?_⟩⟩⟩
    · rw [if_pos (by omega)] at hq; exact hq
    rw [if_neg (by omega)] at hq
    refine ⟨_, rfl, _, _, _, _, .inr ⟨p, rfl, B.ins⟩, rfl, rfl, ⟨_, _, rfl, B.rds⟩, ?_⟩
    refine mkRd (r := r) (fun Q1 k => ⟨_, rfl, _, rfl, _, rfl, _, rfl, k⟩) ?_
    refine ⟨a3, _, _, rfl, rfl, B.rds, ?_, ?_⟩
    · rw [List.length_map]; exact sz16lt (Nat.lt_of_le_of_lt ok.fewR (by decide))
    obtain ⟨B', o⟩ := B.setR (b.rds ++ [r])
    have hq := hq _ B' o
    rw [List.map_append] at hq
    exact hq
  · rw [if_neg c2] at hq
    rw [Bool.eq_false_iff.mpr c2]
    exact ite_t hq
def sp_Book_change_approximation_15c5 (AD : Ad) : DSp := fun ds M Q Ex => ∃ (p a1 a2 a3 : Addr) (b : Bk) (n : Str) (q : Rat), ds = [.ref p, .str n, .rat q] ∧ BkAt AD p a1 a2 a3 b M ∧ BkOk b ∧ After AD p a1 a2 a3 (chA b n q) M Q Ex
def w_Book_change_approximation_15c5 (AD : Ad) (E : DXS) : DSt :=
  (dSeq (dDrop (dMethC AD.bk "require_point" (sp_Book_require_point AD) E (dVar 0) (dCons (dVar 1) dNil)))
  (dDPut (dFld (· = AD.bk) "approximations" (dVar 0)) (dVar 1) (dVar 2)))
theorem rd_Book_change_approximation_15c5 (AD : Ad) (ds M Q E) (h : sp_Book_change_approximation_15c5 AD ds M Q E) : w_Book_change_approximation_15c5 AD (fun C ns fs _ M' => E C ns fs M') { nx := fun _ M' => Q .non M', rt := Q } (startD 3 ds) M := by
  obtain ⟨p, a1, a2, a3, b, n, q, rfl, B, ok, hq⟩ := h
  unfold chA at hq
  refine ⟨_, rfl, _, _, .inr ⟨p, rfl, B.ins⟩, by decide, _, rfl, .inr ⟨p, rfl, B.ins⟩, p, a1, a2, a3, b, n, rfl, B, fun hin => ?_, fun hin => ?_⟩
  · rw [if_pos hin] at hq
    refine ⟨_, rfl, _, rfl, _, _, _, _, .inr ⟨p, rfl, B.ins⟩, rfl, rfl, _, rfl, a2, _, _, n, rfl, rfl, B.near, sz16lt (Nat.lt_of_le_of_lt ok.few (by decide)), ?_⟩
    unfold putD
    rw [if_pos hin, setK_map D.rat]
    obtain ⟨B', o⟩ := B.setN (setK b.pts b.near n q)
    exact hq _ B' o
  · rw [if_neg hin] at hq
    exact hq
def sp_Book_place_of (AD : Ad) : DSp := fun ds M Q Ex => ∃ (p a1 a2 a3 : Addr) (b : Bk) (n : Str), ds = [.ref p, .str n] ∧ BkAt AD p a1 a2 a3 b M ∧ BkOk b ∧ SO n ∧ match plc b.rds n with
  | none => Ex AD.ur ["name"] [.str n] M
  | some (i, _) => Q (.int ((i : Nat) : Int)) M
def w_Book_place_of (AD : Ad) (E : DXS) : DSt :=
  (dSeq (dFor (dEnumA (dCons (dFld (· = AD.bk) "readings" (dVar 0)) dNil)) (gTu 2 (gsCons (gNm 2) (gsCons (gNm 3) gsNil)))
  (dIf (dTst (dOp rEqP (dFld (· = AD.rd) "name" (dVar 3)) (dVar 1)))
  (dRet (dVar 2))
  dNext))
  (dRaiseF AD.ur "name" (dVar 1) E))
theorem rd_Book_place_of (AD : Ad) (ds M Q E) (h : sp_Book_place_of AD ds M Q E) : w_Book_place_of AD (fun C ns fs _ M' => E C ns fs M') { nx := fun _ M' => Q .non M', rt := Q } (startD 4 ds) M := by
  obtain ⟨p, a1, a2, a3, b, n, rfl, B, ok, sn, hq⟩ := h
  refine ⟨_, rfl, _, _, _, _, .inr ⟨p, rfl, B.ins⟩, rfl, rfl, .inr ⟨a3, _, rfl, B.rds, ?_⟩⟩
  refine dLoop_ind (fun rest δ M5 => M5 = M ∧ ∃ (l : List Rdg) (i : Nat) (a2 a3 : Option D), rest = enumD i (l.map (rdgD AD)) ∧ (∀ r, r ∈ l → SO r.name) ∧ plc b.rds n = (plc l n).map (fun x => (x.1 + i, x.2)) ∧ δ = [some (.ref p), some (.str n), a2, a3]) ?_ ?_ _ _ _ ⟨rfl, b.rds, 0, none, none, rfl, fun r hr => (ok.ro r hr).nm, (by cases plc b.rds n <;> rfl), rfl⟩
  · rintro d0 xs δ M5 K hK ⟨rfl, l, i, a4, a5, e, hs, hf, rfl⟩
    cases l with
    | nil => cases e
    | cons r l =>
      injection e with e1 e2
      subst e1; subst e2
      refine ⟨B.rds, _, rfl, rfl, _, _, rfl, _, _, rfl, rfl, ?_⟩
      refine ⟨_, rfl, _, _, _, _, .inl rfl, rfl, rfl, _, rfl, .inl ⟨hs r List.mem_cons_self, sn, eS ⟨_, rfl, ite_d (fun h => ?_) fun h => ?_⟩⟩⟩
      · refine ⟨_, rfl, ?_⟩
        rw [hf, show plc (r :: l) n = some (0, r) from if_pos h] at hq
        have hq : Q (.int ((0 + i : Nat) : Int)) M5 := hq
        rw [Nat.zero_add] at hq
        exact hq
      · refine hK _ _ ⟨rfl, l, i + 1, _, _, rfl, fun r hr => hs r (List.mem_cons_of_mem _ hr), ?_, rfl⟩
        rw [hf, show plc (r :: l) n = (plc l n).map (fun x => (x.1 + 1, x.2)) from if_neg h, Option.map_map]
        congr 1
        funext x
        show (x.1 + 1 + i, x.2) = (x.1 + (i + 1), x.2)
        rw [Nat.add_assoc, Nat.add_comm 1 i]
  · rintro δ M5 ⟨rfl, l, i, a4, a5, e, hs, hf, rfl⟩
    cases l with
    | cons x t' => cases e
    | nil =>
      refine ⟨B.rds, _, rfl, ?_⟩
      rw [hf] at hq
      exact hq
/-! a place among readings -/
theorem rd_at {AD : Ad} {l : List Rdg} {i : Nat} {r : Rdg} (h : l[i]? = some r) : atI (l.map (rdgD AD)) (i : Int) = some (rdgD AD r) := by
  refine atI_nn (by omega) ?_
  rw [Int.toNat_natCast, List.getElem?_map, h]; rfl
theorem ix_at {n i : Nat} (h : i < n) : ixN n (i : Int) = some i := by
  unfold ixN
  rw [if_pos (by omega), if_pos (by omega), Int.toNat_natCast]
def sp_Book_change_value_4165 (AD : Ad) : DSp := fun ds M Q Ex => ∃ (p a1 a2 a3 : Addr) (b : Bk) (n : Str) (q : Rat), ds = [.ref p, .str n, .rat q] ∧ BkAt AD p a1 a2 a3 b M ∧ BkOk b ∧ SO n ∧ After AD p a1 a2 a3 (chV b n q) M Q Ex
def w_Book_change_value_4165 (AD : Ad) (E : DXS) : DSt :=
  (dSeq (dSet 3 (dMethC AD.bk "place_of" (sp_Book_place_of AD) E (dVar 0) (dCons (dVar 1) dNil)))
  (dSeq (dSet 4 (dOp rIxD (dFld (· = AD.bk) "readings" (dVar 0)) (dVar 3)))
  (dAsg (dMkZ AD.rd (sp_Reading___init__ AD) (dCons (dVar 1) (dCons (dFld (· = AD.rd) "terms" (dVar 4)) (dCons (dVar 2) (dCons (dFld (· = AD.rd) "weight" (dVar 4)) dNil))))) (gSb (dFld (· = AD.bk) "readings" (dVar 0)) (dVar 3)))))
theorem rd_Book_change_value_4165 (AD : Ad) (ds M Q E) (h : sp_Book_change_value_4165 AD ds M Q E) : w_Book_change_value_4165 AD (fun C ns fs _ M' => E C ns fs M') { nx := fun _ M' => Q .non M', rt := Q } (startD 5 ds) M := by
  obtain ⟨p, a1, a2, a3, b, n, q, rfl, B, ok, sn, hq⟩ := h
  unfold chV at hq
  refine ⟨_, rfl, _, _, .inr ⟨p, rfl, B.ins⟩, by decide, _, rfl, .inr ⟨p, rfl, B.ins⟩, p, a1, a2, a3, b, n, rfl, B, ok, sn, ?_⟩
  cases hp : plc b.rds n with
  | none => rw [hp] at hq; exact hq
  | some x =>
    obtain ⟨i, r⟩ := x
    rw [hp] at hq
    obtain ⟨h1, h2, h3⟩ := plc_some hp
    refine ⟨_, rfl, _, _, _, _, .inr ⟨p, rfl, B.ins⟩, rfl, rfl, _, rfl, i, rfl, _, _, B.rds, rd_at h1, ?_⟩
    refine ⟨_, rfl, _, rfl, _, _, _, _, .inl rfl, rfl, rfl, _, rfl, _, rfl, _, _, _, _, .inl rfl, rfl, rfl, fun x hx => ⟨x, _, _, _, _, rfl, mput_same, rfl, _, _, mput_same, ?_⟩⟩
    rw [mput_mput, mdel_mput hx]
    refine ⟨_, rfl, _, _, _, _, .inr ⟨p, rfl, B.ins⟩, rfl, rfl, _, rfl, a3, _, _, i, rfl, rfl, B.rds, ix_at (by rw [List.length_map]; exact h3), ?_⟩
    obtain ⟨B', o⟩ := B.setR (b.rds.set i ⟨n, r.terms, q, r.weight⟩)
    have hq := hq _ B' o
    rw [List.map_set] at hq
    exact hq
def sp_Book_change_weight_d0e6 (AD : Ad) : DSp := fun ds M Q Ex => ∃ (p a1 a2 a3 : Addr) (b : Bk) (n : Str) (q : Rat), ds = [.ref p, .str n, .rat q] ∧ BkAt AD p a1 a2 a3 b M ∧ BkOk b ∧ SO n ∧ After AD p a1 a2 a3 (chW b n q) M Q Ex
def w_Book_change_weight_d0e6 (AD : Ad) (E : DXS) : DSt :=
  (dSeq (dSet 3 (dMethC AD.bk "place_of" (sp_Book_place_of AD) E (dVar 0) (dCons (dVar 1) dNil)))
  (dSeq (dIf (dTst (dOp rLe (dTop (dVar 2)) (dC (.int 0))))
  (dRaiseF AD.badr "reason" (dC (.str "weight")) E)
  dNext)
  (dSeq (dSet 4 (dOp rIxD (dFld (· = AD.bk) "readings" (dVar 0)) (dVar 3)))
  (dAsg (dMkZ AD.rd (sp_Reading___init__ AD) (dCons (dVar 1) (dCons (dFld (· = AD.rd) "terms" (dVar 4)) (dCons (dFld (· = AD.rd) "value" (dVar 4)) (dCons (dVar 2) dNil))))) (gSb (dFld (· = AD.bk) "readings" (dVar 0)) (dVar 3))))))
theorem rd_Book_change_weight_d0e6 (AD : Ad) (ds M Q E) (h : sp_Book_change_weight_d0e6 AD ds M Q E) : w_Book_change_weight_d0e6 AD (fun C ns fs _ M' => E C ns fs M') { nx := fun _ M' => Q .non M', rt := Q } (startD 5 ds) M := by
  obtain ⟨p, a1, a2, a3, b, n, q, rfl, B, ok, sn, hq⟩ := h
  unfold chW at hq
  refine ⟨_, rfl, _, _, .inr ⟨p, rfl, B.ins⟩, by decide, _, rfl, .inr ⟨p, rfl, B.ins⟩, p, a1, a2, a3, b, n, rfl, B, ok, sn, ?_⟩
  cases hp : plc b.rds n with
  | none => rw [hp] at hq; exact hq
  | some x =>
    obtain ⟨i, r⟩ := x
    rw [hp] at hq
    obtain ⟨h1, h2, h3⟩ := plc_some hp
    have hq : After AD p a1 a2 a3 (if q.num ≤ 0 then .error (.badr, "weight") else .ok ⟨b.pts, b.near, b.rds.set i ⟨n, r.terms, r.value, q⟩⟩) M Q E := hq
    refine ⟨_, rfl, q, rfl, trivial, _, rfl, ite_d (fun h => ?_) fun h => ?_⟩
    · rw [if_pos h] at hq; exact hq
    rw [if_neg h] at hq
    refine ⟨_, rfl, _, _, _, _, .inr ⟨p, rfl, B.ins⟩, rfl, rfl, _, rfl, i, rfl, _, _, B.rds, rd_at h1, ?_⟩
    refine ⟨_, rfl, _, rfl, _, _, _, _, .inl rfl, rfl, rfl, _, rfl, _, _, _, _, .inl rfl, rfl, rfl, _, rfl, fun x hx => ⟨x, _, _, _, _, rfl, mput_same, rfl, _, _, mput_same, ?_⟩⟩
    rw [mput_mput, mdel_mput hx]
    refine ⟨_, rfl, _, _, _, _, .inr ⟨p, rfl, B.ins⟩, rfl, rfl, _, rfl, a3, _, _, i, rfl, rfl, B.rds, ix_at (by rw [List.length_map]; exact h3), ?_⟩
    obtain ⟨B', o⟩ := B.setR (b.rds.set i ⟨n, r.terms, r.value, q⟩)
    have hq := hq _ B' o
    rw [List.map_set] at hq
    exact hq
def sp_Book_withdraw_8f01 (AD : Ad) : DSp := fun ds M Q Ex => ∃ (p a1 a2 a3 : Addr) (b : Bk) (n : Str), ds = [.ref p, .str n] ∧ BkAt AD p a1 a2 a3 b M ∧ BkOk b ∧ SO n ∧ After AD p a1 a2 a3 (wdr b n) M Q Ex
def w_Book_withdraw_8f01 (AD : Ad) (E : DXS) : DSt :=
  (dDelL (dFld (· = AD.bk) "readings" (dVar 0)) (dMethC AD.bk "place_of" (sp_Book_place_of AD) E (dVar 0) (dCons (dVar 1) dNil)))
theorem map_eraseI {α β : Type} (f : α → β) (xs : List α) (a : Nat) : (xs.map f).eraseIdx a = (xs.eraseIdx a).map f := by
  rw [List.eraseIdx_eq_take_drop_succ, List.eraseIdx_eq_take_drop_succ, List.map_append, List.map_take, List.map_drop]
theorem rd_Book_withdraw_8f01 (AD : Ad) (ds M Q E) (h : sp_Book_withdraw_8f01 AD ds M Q E) : w_Book_withdraw_8f01 AD (fun C ns fs _ M' => E C ns fs M') { nx := fun _ M' => Q .non M', rt := Q } (startD 2 ds) M := by
  obtain ⟨p, a1, a2, a3, b, n, rfl, B, ok, sn, hq⟩ := h
  unfold wdr at hq
  refine ⟨_, rfl, _, _, _, _, .inr ⟨p, rfl, B.ins⟩, rfl, rfl, _, rfl, _, _, .inr ⟨p, rfl, B.ins⟩, by decide, _, rfl, .inr ⟨p, rfl, B.ins⟩, p, a1, a2, a3, b, n, rfl, B, ok, sn, ?_⟩
  cases hp : plc b.rds n with
  | none => rw [hp] at hq; exact hq
  | some x =>
    obtain ⟨i, r⟩ := x
    rw [hp] at hq
    obtain ⟨h1, h2, h3⟩ := plc_some hp
    have := ok.fewR
    refine ⟨a3, _, i, rfl, rfl, B.rds, by rw [List.length_map]; exact h3, by omega, ?_⟩
    obtain ⟨B', o⟩ := B.setR (b.rds.eraseIdx i)
    rw [map_eraseI]
    exact hq _ B' o
def sp_Book_remove_point_5cca (AD : Ad) : DSp := fun ds M Q Ex => ∃ (p a1 a2 a3 : Addr) (b : Bk) (n : Str), ds = [.ref p, .str n] ∧ BkAt AD p a1 a2 a3 b M ∧ BkOk b ∧ SO n ∧ After AD p a1 a2 a3 (rmP b n) M Q Ex
def w_Book_remove_point_5cca (AD : Ad) (E : DXS) : DSt :=
  (dSeq (dDrop (dMethC AD.bk "require_point" (sp_Book_require_point AD) E (dVar 0) (dCons (dVar 1) dNil)))
  (dSeq (dFor (dIt (dFld (· = AD.bk) "readings" (dVar 0))) (gNm 2)
  (dIf (dTst (dOp rInP (dVar 1) (dLc (dIt (dFld (· = AD.rd) "terms" (dVar 2))) (gTu 2 (gsCons (gNm 3) (gsCons (gNm 4) gsNil))) dYes (dVar 3) [3, 4])))
  (dRaiseF AD.badr "reason" (dC (.str "used")) E)
  dNext))
  (dSeq (dDrop (dRem ansS (dFld (· = AD.bk) "points" (dVar 0)) (dCons (dVar 1) dNil)))
  (dDDel (dFld (· = AD.bk) "approximations" (dVar 0)) (dVar 1)))))
theorem rem_str {n : Str} : ∀ {xs : List Str}, xs.Nodup → n ∈ xs → ∃ j, RemAt ansS (xs.map D.str) (.str n) j ∧ (xs.map D.str).eraseIdx j = (delK xs xs n).map D.str
  | [], _, h => nomatch h
  | x :: xs, nd, h => by
    obtain ⟨n1, n2⟩ := List.nodup_cons.mp nd
    by_cases e : x = n
    · subst e
      refine ⟨0, ⟨by simp, fun i d hi => absurd hi (Nat.not_lt_zero i), fun d hd => ?_⟩, ?_⟩
      · cases hd
        show some (decide (x = x)) = some true
        rw [decide_eq_true rfl]
      · rw [delK_self, List.filter_cons, decide_eq_true rfl]
        show xs.map D.str = (xs.filter _).map D.str
        rw [List.filter_eq_self.mpr]
        intro a ha
        rw [decide_eq_false (fun e : a = x => n1 (e ▸ ha))]; rfl
    · obtain ⟨j, ⟨r1, r2, r3⟩, hj⟩ := rem_str n2 (by
        rcases List.mem_cons.mp h with h | h
        · exact absurd h.symm e
        · exact h)
      refine ⟨j + 1, ⟨Nat.succ_lt_succ r1, fun i d hi hd => ?_, fun d hd => r3 d hd⟩, ?_⟩
      · cases i with
        | zero =>
          cases hd
          show some (decide (x = n)) = some false
          rw [decide_eq_false e]
        | succ i => exact r2 i d (by omega) hd
      · show D.str x :: (xs.map D.str).eraseIdx j = (if x = n then delK xs (x :: xs).tail n else x :: delK xs xs n).map D.str
        rw [hj, if_neg e]; rfl
theorem rd_Book_remove_point_5cca (AD : Ad) (ds M Q E) (h : sp_Book_remove_point_5cca AD ds M Q E) : w_Book_remove_point_5cca AD (fun C ns fs _ M' => E C ns fs M') { nx := fun _ M' => Q .non M', rt := Q } (startD 5 ds) M := by
  obtain ⟨p, a1, a2, a3, b, n, rfl, B, ok, sn, hq⟩ := h
  unfold rmP at hq
  refine ⟨_, rfl, _, _, .inr ⟨p, rfl, B.ins⟩, by decide, _, rfl, .inr ⟨p, rfl, B.ins⟩, p, a1, a2, a3, b, n, rfl, B, fun hin => ?_, fun hin => ?_⟩
  · rw [if_pos hin] at hq
    refine ⟨_, rfl, _, _, _, _, .inr ⟨p, rfl, B.ins⟩, rfl, rfl, _, B.rds, ?_⟩
    refine dLoop_ind (fun rest δ M5 => M5 = M ∧ ∃ (l : List Rdg) (a2 : Option D), rest = l.map (rdgD AD) ∧ (∀ s, s ∈ l → RdgOk s) ∧ used n b.rds = used n l ∧ δ = [some (.ref p), some (.str n), a2, none, none]) ?_ ?_ _ _ _ ⟨rfl, b.rds, none, rfl, ok.ro, rfl, rfl⟩
    · rintro d0 xs δ M5 K hK ⟨rfl, l, a5, e, hs, hu, rfl⟩
      cases l with
      | nil => cases e
      | cons s l =>
        injection e with e1 e2
        subst e1; subst e2
        have so := hs s List.mem_cons_self
        refine ⟨B.rds, _, rfl, _, rfl, _, _, _, _, .inl rfl, rfl, rfl, ?_⟩
        refine lc_trm (by decide) (by show 3 < 5; decide) s.terms [] (by show 0 + _ ≤ _; have := so.few; exact sz16 (by omega)) ?_
        rw [List.nil_append]
        refine ⟨_, rfl, sn, pl_strs fun x hx => (by
            obtain ⟨t, ht, rfl⟩ := List.mem_map.mp hx
            exact so.tm t ht), mS ⟨_, rfl, ite_d (fun h => ?_) fun h => ?_⟩⟩
        · have : used n b.rds = true := by rw [hu]; show (decide (n ∈ s.terms.map Prod.fst) || _) = true; rw [decide_eq_true h]; rfl
          rw [if_pos this] at hq
          exact hq
        · refine hK _ _ ⟨rfl, l, _, rfl, fun s hs2 => hs s (List.mem_cons_of_mem _ hs2), ?_, rfl⟩
          rw [hu]; show (decide (n ∈ s.terms.map Prod.fst) || used n l) = _; rw [decide_eq_false h]; rfl
    · rintro δ M5 ⟨rfl, l, a5, e, hs, hu, rfl⟩
      cases l with
      | cons x t' => cases e
      | nil =>
        rw [if_neg (by rw [hu]; exact Bool.false_ne_true)] at hq
        obtain ⟨j, hj, ej⟩ := rem_str ok.nd hin
        refine ⟨B.rds, _, rfl, _, _, _, _, .inr ⟨p, rfl, B.ins⟩, rfl, rfl, ⟨_, _, rfl, B.pts⟩, _, rfl, a1, _, _, j, rfl, rfl, B.pts, hj, ?_⟩
        refine ⟨_, rfl, _, _, _, _, .inr ⟨p, rfl, by rw [mput_ne B.np1]; exact B.ins⟩, rfl, rfl, _, rfl, a2, _, _, n, rfl, rfl, by rw [mput_ne B.n12.symm]; exact B.near, hin, ?_⟩
        obtain ⟨B', o⟩ := B.setP (delK b.pts b.pts n) (delK b.pts b.near n)
        rw [ej, delK_map D.rat]
        exact hq _ B' o
  · rw [if_neg hin] at hq
    exact hq
def sp_law_made_9a1d : DSp := fun ds M Q _ => ∃ q : Rat, ds = [pairD q] ∧ szB q.den ∧ Q (.rat q) M
def w_law_made_9a1d : DSt :=
  (dRet (dMk (dCons (dOp rIxD (dVar 0) (dC (.int 0))) (dCons (dOp rIxD (dVar 0) (dC (.int 1))) dNil))))
theorem rd_law_made_9a1d (ds M Q E) (h : sp_law_made_9a1d ds M Q E) : w_law_made_9a1d { nx := fun _ M' => Q .non M', rt := Q } (startD 1 ds) M := by
  obtain ⟨q, rfl, hz, hq⟩ := h
  refine ⟨_, rfl, 0, rfl, .int q.num, rfl, _, rfl, 1, rfl, .int q.den, rfl, dne q, hz, ?_⟩
  rw [Rat.num_divInt_den]
  exact hq
def sp_law_call (AD : Ad) : DSp := fun ds M Q Ex => ∃ (p a1 a2 a3 : Addr) (b : Bk) (d : Dd), ds = [.ref p, ddD d] ∧ BkAt AD p a1 a2 a3 b M ∧ BkOk b ∧ DdOk d ∧ After AD p a1 a2 a3 (stp b d) M Q Ex
def w_law_call (AD : Ad) (E : DXS) : DSt :=
  (dIf (dTst (dOp rEqP (dOp rIxD (dVar 1) (dC (.int 0))) (dC (.str "point"))))
  (dDrop (dMethC AD.bk "add_point" (sp_Book_add_point_7c4f AD) E (dVar 0) (dCons (dOp rIxD (dVar 1) (dC (.int 1))) (dCons (dCall sp_law_made_9a1d (dCons (dOp rIxD (dVar 1) (dC (.int 2))) dNil)) dNil))))
  (dIf (dTst (dOp rEqP (dOp rIxD (dVar 1) (dC (.int 0))) (dC (.str "reading"))))
  (dDrop (dMethC AD.bk "add_reading" (sp_Book_add_reading_3063 AD) E (dVar 0) (dCons (dOp rIxD (dVar 1) (dC (.int 1))) (dCons (dOp rIxD (dVar 1) (dC (.int 2))) (dCons (dCall sp_law_made_9a1d (dCons (dOp rIxD (dVar 1) (dC (.int 3))) dNil)) (dCons (dCall sp_law_made_9a1d (dCons (dOp rIxD (dVar 1) (dC (.int 4))) dNil)) dNil))))))
  (dIf (dTst (dOp rEqP (dOp rIxD (dVar 1) (dC (.int 0))) (dC (.str "approximation"))))
  (dDrop (dMethC AD.bk "change_approximation" (sp_Book_change_approximation_15c5 AD) E (dVar 0) (dCons (dOp rIxD (dVar 1) (dC (.int 1))) (dCons (dCall sp_law_made_9a1d (dCons (dOp rIxD (dVar 1) (dC (.int 2))) dNil)) dNil))))
  (dIf (dTst (dOp rEqP (dOp rIxD (dVar 1) (dC (.int 0))) (dC (.str "value"))))
  (dDrop (dMethC AD.bk "change_value" (sp_Book_change_value_4165 AD) E (dVar 0) (dCons (dOp rIxD (dVar 1) (dC (.int 1))) (dCons (dCall sp_law_made_9a1d (dCons (dOp rIxD (dVar 1) (dC (.int 2))) dNil)) dNil))))
  (dIf (dTst (dOp rEqP (dOp rIxD (dVar 1) (dC (.int 0))) (dC (.str "weight"))))
  (dDrop (dMethC AD.bk "change_weight" (sp_Book_change_weight_d0e6 AD) E (dVar 0) (dCons (dOp rIxD (dVar 1) (dC (.int 1))) (dCons (dCall sp_law_made_9a1d (dCons (dOp rIxD (dVar 1) (dC (.int 2))) dNil)) dNil))))
  (dIf (dTst (dOp rEqP (dOp rIxD (dVar 1) (dC (.int 0))) (dC (.str "withdraw"))))
  (dDrop (dMethC AD.bk "withdraw" (sp_Book_withdraw_8f01 AD) E (dVar 0) (dCons (dOp rIxD (dVar 1) (dC (.int 1))) dNil)))
  (dDrop (dMethC AD.bk "remove_point" (sp_Book_remove_point_5cca AD) E (dVar 0) (dCons (dOp rIxD (dVar 1) (dC (.int 1))) dNil)))))))))
theorem After.imp {AD p a1 a2 a3 r M Q Q' Ex Ex'} (h : After AD p a1 a2 a3 r M Q Ex) (k : ∀ M', Q .non M' → Q' .non M') (k2 : ∀ C ns fs M', Ex C ns fs M' → Ex' C ns fs M') : After AD p a1 a2 a3 r M Q' Ex' := by
  cases r with
  | error e => exact k2 _ _ _ _ h
  | ok b => exact fun M' B o => k _ (h M' B o)
theorem rd_law_call (AD : Ad) (ds M Q E) (h : sp_law_call AD ds M Q E) : w_law_call AD (fun C ns fs _ M' => E C ns fs M') { nx := fun _ M' => Q .non M', rt := Q } (startD 2 ds) M := by
  obtain ⟨p, a1, a2, a3, b, d, rfl, B, ok, sd, hq⟩ := h
  have hq := hq.imp (Q' := fun _ M' => Q .non M') (Ex' := fun C ns fs M' => E C ns fs M') (fun _ h => h) (fun _ _ _ _ h => h)
  cases d with
  | point n q =>
    refine ⟨_, rfl, 0, rfl, _, rfl, .inl ⟨by decide +kernel, by decide +kernel, eS ⟨_, rfl, ite_t ?_⟩⟩⟩
    exact ⟨_, rfl, _, _, .inr ⟨p, rfl, B.ins⟩, by decide, _, rfl, 1, rfl, _, rfl, _, rfl, 2, rfl, _, rfl, q, rfl, trivial, .inr ⟨p, rfl, B.ins⟩, p, a1, a2, a3, b, n, q, rfl, B, ok, sd, hq⟩
  | reading r =>
    refine ⟨_, rfl, 0, rfl, _, rfl, .inl ⟨by decide +kernel, by decide +kernel, eS ⟨_, rfl, ite_f ?_⟩⟩⟩
    refine ⟨_, rfl, 0, rfl, _, rfl, .inl ⟨by decide +kernel, by decide +kernel, eS ⟨_, rfl, ite_t ?_⟩⟩⟩
    exact ⟨_, rfl, _, _, .inr ⟨p, rfl, B.ins⟩, by decide, _, rfl, 1, rfl, _, rfl, _, rfl, 2, rfl, _, rfl, _, rfl, 3, rfl, _, rfl, r.value, rfl, trivial, _, rfl, 4, rfl, _, rfl, r.weight, rfl, trivial, .inr ⟨p, rfl, B.ins⟩, p, a1, a2, a3, b, r, rfl, B, ok, sd, hq⟩
  | appr n q =>
    refine ⟨_, rfl, 0, rfl, _, rfl, .inl ⟨by decide +kernel, by decide +kernel, eS ⟨_, rfl, ite_f ?_⟩⟩⟩
    refine ⟨_, rfl, 0, rfl, _, rfl, .inl ⟨by decide +kernel, by decide +kernel, eS ⟨_, rfl, ite_f ?_⟩⟩⟩
    refine ⟨_, rfl, 0, rfl, _, rfl, .inl ⟨by decide +kernel, by decide +kernel, eS ⟨_, rfl, ite_t ?_⟩⟩⟩
    exact ⟨_, rfl, _, _, .inr ⟨p, rfl, B.ins⟩, by decide, _, rfl, 1, rfl, _, rfl, _, rfl, 2, rfl, _, rfl, q, rfl, trivial, .inr ⟨p, rfl, B.ins⟩, p, a1, a2, a3, b, n, q, rfl, B, ok, hq⟩
  | value n q =>
    refine ⟨_, rfl, 0, rfl, _, rfl, .inl ⟨by decide +kernel, by decide +kernel, eS ⟨_, rfl, ite_f ?_⟩⟩⟩
    refine ⟨_, rfl, 0, rfl, _, rfl, .inl ⟨by decide +kernel, by decide +kernel, eS ⟨_, rfl, ite_f ?_⟩⟩⟩
    refine ⟨_, rfl, 0, rfl, _, rfl, .inl ⟨by decide +kernel, by decide +kernel, eS ⟨_, rfl, ite_f ?_⟩⟩⟩
    refine ⟨_, rfl, 0, rfl, _, rfl, .inl ⟨by decide +kernel, by decide +kernel, eS ⟨_, rfl, ite_t ?_⟩⟩⟩
    exact ⟨_, rfl, _, _, .inr ⟨p, rfl, B.ins⟩, by decide, _, rfl, 1, rfl, _, rfl, _, rfl, 2, rfl, _, rfl, q, rfl, trivial, .inr ⟨p, rfl, B.ins⟩, p, a1, a2, a3, b, n, q, rfl, B, ok, sd, hq⟩
  | weight n q =>
    refine ⟨_, rfl, 0, rfl, _, rfl, .inl ⟨by decide +kernel, by decide +kernel, eS ⟨_, rfl, ite_f ?_⟩⟩⟩
    refine ⟨_, rfl, 0, rfl, _, rfl, .inl ⟨by decide +kernel, by decide +kernel, eS ⟨_, rfl, ite_f ?_⟩⟩⟩
    refine ⟨_, rfl, 0, rfl, _, rfl, .inl ⟨by decide +kernel, by decide +kernel, eS ⟨_, rfl, ite_f ?_⟩⟩⟩
    refine ⟨_, rfl, 0, rfl, _, rfl, .inl ⟨by decide +kernel, by decide +kernel, eS ⟨_, rfl, ite_f ?_⟩⟩⟩
    refine ⟨_, rfl, 0, rfl, _, rfl, .inl ⟨by decide +kernel, by decide +kernel, eS ⟨_, rfl, ite_t ?_⟩⟩⟩
    exact ⟨_, rfl, _, _, .inr ⟨p, rfl, B.ins⟩, by decide, _, rfl, 1, rfl, _, rfl, _, rfl, 2, rfl, _, rfl, q, rfl, trivial, .inr ⟨p, rfl, B.ins⟩, p, a1, a2, a3, b, n, q, rfl, B, ok, sd, hq⟩
  | withdraw n =>
    refine ⟨_, rfl, 0, rfl, _, rfl, .inl ⟨by decide +kernel, by decide +kernel, eS ⟨_, rfl, ite_f ?_⟩⟩⟩
    refine ⟨_, rfl, 0, rfl, _, rfl, .inl ⟨by decide +kernel, by decide +kernel, eS ⟨_, rfl, ite_f ?_⟩⟩⟩
    refine ⟨_, rfl, 0, rfl, _, rfl, .inl ⟨by decide +kernel, by decide +kernel, eS ⟨_, rfl, ite_f ?_⟩⟩⟩
    refine ⟨_, rfl, 0, rfl, _, rfl, .inl ⟨by decide +kernel, by decide +kernel, eS ⟨_, rfl, ite_f ?_⟩⟩⟩
    refine ⟨_, rfl, 0, rfl, _, rfl, .inl ⟨by decide +kernel, by decide +kernel, eS ⟨_, rfl, ite_f ?_⟩⟩⟩
    refine ⟨_, rfl, 0, rfl, _, rfl, .inl ⟨by decide +kernel, by decide +kernel, eS ⟨_, rfl, ite_t ?_⟩⟩⟩
    exact ⟨_, rfl, _, _, .inr ⟨p, rfl, B.ins⟩, by decide, _, rfl, 1, rfl, _, rfl, .inr ⟨p, rfl, B.ins⟩, p, a1, a2, a3, b, n, rfl, B, ok, sd, hq⟩
  | remove n =>
    refine ⟨_, rfl, 0, rfl, _, rfl, .inl ⟨by decide +kernel, by decide +kernel, eS ⟨_, rfl, ite_f ?_⟩⟩⟩
    refine ⟨_, rfl, 0, rfl, _, rfl, .inl ⟨by decide +kernel, by decide +kernel, eS ⟨_, rfl, ite_f ?_⟩⟩⟩
    refine ⟨_, rfl, 0, rfl, _, rfl, .inl ⟨by decide +kernel, by decide +kernel, eS ⟨_, rfl, ite_f ?_⟩⟩⟩
    refine ⟨_, rfl, 0, rfl, _, rfl, .inl ⟨by decide +kernel, by decide +kernel, eS ⟨_, rfl, ite_f ?_⟩⟩⟩
    refine ⟨_, rfl, 0, rfl, _, rfl, .inl ⟨by decide +kernel, by decide +kernel, eS ⟨_, rfl, ite_f ?_⟩⟩⟩
    refine ⟨_, rfl, 0, rfl, _, rfl, .inl ⟨by decide +kernel, by decide +kernel, eS ⟨_, rfl, ite_f ?_⟩⟩⟩
    exact ⟨_, rfl, _, _, .inr ⟨p, rfl, B.ins⟩, by decide, _, rfl, 1, rfl, _, rfl, .inr ⟨p, rfl, B.ins⟩, p, a1, a2, a3, b, n, rfl, B, ok, sd, hq⟩
def Told (AD : Ad) (p a1 a2 a3 : Addr) (r : Res) (M : Mem) (Q : DK) : Prop := match r with
  | .error (e, t) => Q (.tup [.str e.wd, .str t]) M
  | .ok b' => ∀ M', BkAt AD p a1 a2 a3 b' M' → Of3 a1 a2 a3 M M' → Q .non M'
def sp_law_told_97da (AD : Ad) : DSp := fun ds M Q _ => ∃ (p a1 a2 a3 : Addr) (b : Bk) (d : Dd), ds = [.ref p, ddD d] ∧ AD.errs.Nodup ∧ BkAt AD p a1 a2 a3 b M ∧ BkOk b ∧ DdOk d ∧ Told AD p a1 a2 a3 (stp b d) M Q
def w_law_told_97da (AD : Ad) : DSt :=
  (dSeq (dTryM 2 (fun E =>
  (dDrop (dCallX (sp_law_call AD) E (dCons (dVar 0) (dCons (dVar 1) dNil)))))
  [⟨AD.dup, "name", fun a y => (dRet (dCB rTup (dCons (dC (.str "duplicate")) (dCons (dErrF y (dVar 2) a) dNil))))⟩,
    ⟨AD.badr, "reason", fun a y => (dRet (dCB rTup (dCons (dC (.str "reading")) (dCons (dErrF y (dVar 2) a) dNil))))⟩,
    ⟨AD.up, "name", fun a y => (dRet (dCB rTup (dCons (dC (.str "point")) (dCons (dErrF y (dVar 2) a) dNil))))⟩,
    ⟨AD.ur, "name", fun a y => (dRet (dCB rTup (dCons (dC (.str "mark")) (dCons (dErrF y (dVar 2) a) dNil))))⟩,
    ⟨AD.lim, "what", fun a y => (dRet (dCB rTup (dCons (dC (.str "limit")) (dCons (dErrF y (dVar 2) a) dNil))))⟩])
  (dRet (dC .non)))
theorem rd_law_told_97da (AD : Ad) (ds M Q E) (h : sp_law_told_97da AD ds M Q E) : w_law_told_97da AD { nx := fun _ M' => Q .non M', rt := Q } (startD 3 ds) M := by
  obtain ⟨p, a1, a2, a3, b, d, rfl, nd, B, ok, sd, hq⟩ := h
  have l2 : 2 ≤ sizeLine := by decide
  obtain ⟨n1, nd⟩ := List.nodup_cons.mp nd
  obtain ⟨n2, nd⟩ := List.nodup_cons.mp nd
  obtain ⟨n3, nd⟩ := List.nodup_cons.mp nd
  obtain ⟨n4, _⟩ := List.nodup_cons.mp nd
  simp only [List.mem_cons, List.not_mem_nil, not_or, or_false] at n1 n2 n3 n4
  refine ⟨_, rfl, _, rfl, p, a1, a2, a3, b, d, rfl, B, ok, sd, ?_⟩
  cases hr : stp b d with
  | ok b' =>
    rw [hr] at hq
    exact fun M' B' o => hq M' B' o
  | error e =>
    obtain ⟨e, t⟩ := e
    rw [hr] at hq
    cases e with
    | dup => exact ⟨_, _, _, rfl, rfl, rfl, if_pos ⟨rfl, rfl⟩, fun a => ⟨_, rfl, rfl, l2, hq⟩⟩
    | badr => exact ⟨_, _, _, rfl, rfl, rfl, (if_neg fun z => n1.1 z.1).trans (if_pos ⟨rfl, rfl⟩), fun a => ⟨_, rfl, rfl, l2, hq⟩⟩
    | up => exact ⟨_, _, _, rfl, rfl, rfl, (if_neg fun z => n1.2.1 z.1).trans ((if_neg fun z => n2.1 z.1).trans (if_pos ⟨rfl, rfl⟩)), fun a => ⟨_, rfl, rfl, l2, hq⟩⟩
    | ur => exact ⟨_, _, _, rfl, rfl, rfl, (if_neg fun z => n1.2.2.1 z.1).trans ((if_neg fun z => n2.2.1 z.1).trans ((if_neg fun z => n3.1 z.1).trans (if_pos ⟨rfl, rfl⟩))), fun a => ⟨_, rfl, rfl, l2, hq⟩⟩
    | lim => exact ⟨_, _, _, rfl, rfl, rfl, (if_neg fun z => n1.2.2.2 z.1).trans ((if_neg fun z => n2.2.2 z.1).trans ((if_neg fun z => n3.2 z.1).trans ((if_neg fun z => n4 z.1).trans (if_pos ⟨rfl, rfl⟩)))), fun a => ⟨_, rfl, rfl, l2, hq⟩⟩
/-! matrices of fractions: rows -/
def matD (m : List (List Rat)) : D := .tup (m.map vecD)
def Btm (n : Nat) (m : List (List Rat)) : Prop := ∀ r, r ∈ m → Bts n r
/-- all rows are w long -/
def Wid (w : Nat) (m : List (List Rat)) : Prop := ∀ r, r ∈ m → r.length = w
def gtR (xs : List Rat) (k : Nat) : Rat := xs[k]?.getD 0
def colR (m : List (List Rat)) (j : Nat) : List Rat := m.map fun r => gtR r j
def transR (m : List (List Rat)) (w : Nat) : List (List Rat) := (List.range' 0 w).map fun j => colR m j
def applyR (m : List (List Rat)) (v : List Rat) : List Rat := m.map fun r => dotR r v
def prodR (a b : List (List Rat)) (w : Nat) : List (List Rat) := a.map fun r => applyR (transR b w) r
def identR (n : Nat) : List (List Rat) := (List.range' 0 n).map fun i => (List.range' 0 n).map fun k => if k = i then 1 else 0
def outerR (a b : List Rat) : List (List Rat) := a.map fun x => b.map fun y => x * y
/-- a comprehension over the rows of a matrix -/
theorem lc_rows {j : Nat} {te : DE} {δ : DS0} {Q : List D → Mem → Prop} (f : List Rat → D) (P : List Rat → Prop) (h : ∀ r M (K : DK), P r → K (f r) M → te (δ.set j (some (vecD r))) M K) :
    ∀ (m : List (List Rat)) (acc : List D) M, (∀ r, r ∈ m → P r) → acc.length + m.length ≤ sizeLine → Q (acc ++ m.map f) M → dLcL always (gNm j) dYes te δ (m.map vecD) acc M Q
  | [], acc, M, _, _, q => ⟨trivial, by simpa using q⟩
  | r :: m, acc, M, hp, hl, q => by
    refine ⟨trivial, by rw [List.length_cons] at hl; omega, ?_⟩
    refine ite_t (B := dLcL always (gNm j) dYes te δ (m.map vecD) acc M Q) (h r M _ (hp r List.mem_cons_self) (lc_rows f P h m _ M (fun y hy => hp y (List.mem_cons_of_mem _ hy)) ?_ ?_))
    · rw [List.length_append, List.length_singleton]; rw [List.length_cons] at hl; omega
    · rw [List.append_assoc]; exact q
theorem gtR_mem {xs : List Rat} {k : Nat} (h : k < xs.length) : gtR xs k ∈ xs ∧ atI (ratsD xs) (k : Int) = some (.rat (gtR xs k)) := by
  obtain ⟨q, e, m, a⟩ := ratsD_at (xs := xs) (k := (k : Int)) (by omega) (by omega)
  have e2 : gtR xs k = q := by unfold gtR; rw [show xs[k]? = some q by rw [← e]; rfl]; rfl
  rw [e2]
  exact ⟨m, a⟩
/-! rows of fractions as the law keeps them -/
def prs (xs : List Rat) : List D := xs.map pairD
theorem prs_len (xs : List Rat) : (prs xs).length = xs.length := List.length_map ..
theorem prs_at {xs : List Rat} {k : Int} (h0 : 0 ≤ k) (h1 : k < xs.length) : ∃ q, xs[k.toNat]? = some q ∧ q ∈ xs ∧ atI (prs xs) k = some (pairD q) := by
  have hk : k.toNat < xs.length := by omega
  refine ⟨xs[k.toNat], List.getElem?_eq_getElem hk, List.getElem_mem hk, atI_nn h0 ?_⟩
  unfold prs; rw [List.getElem?_map, List.getElem?_eq_getElem hk]; rfl
theorem prs_mem {xs : List Rat} {d : D} (h : d ∈ prs xs) : ∃ q, q ∈ xs ∧ d = pairD q := by
  obtain ⟨q, hq, rfl⟩ := List.mem_map.mp h
  exact ⟨q, hq, rfl⟩
theorem szb_of {n : Nat} {q : Rat} (h : Bt n q) (hn : n ≤ 8960 := by decide) : szB (q.den : Int) := trivial
/-- a comprehension over such a row -/
theorem lc_prs {j : Nat} {te : DE} {δ : DS0} {Q : List D → Mem → Prop} (f : Rat → D) (P : Rat → Prop) (h : ∀ x M (K : DK), P x → K (f x) M → te (δ.set j (some (pairD x))) M K) :
    ∀ (xs : List Rat) (acc : List D) M, (∀ x, x ∈ xs → P x) → acc.length + xs.length ≤ sizeLine → Q (acc ++ xs.map f) M → dLcL always (gNm j) dYes te δ (prs xs) acc M Q
  | [], acc, M, _, _, q => ⟨trivial, by simpa using q⟩
  | x :: xs, acc, M, hp, hl, q => by
    refine ⟨trivial, by rw [List.length_cons] at hl; omega, ?_⟩
    refine ite_t (B := dLcL always (gNm j) dYes te δ (prs xs) acc M Q) (h x M _ (hp x List.mem_cons_self) (lc_prs f P h xs _ M (fun y hy => hp y (List.mem_cons_of_mem _ hy)) ?_ ?_))
    · rw [List.length_append, List.length_singleton]; rw [List.length_cons] at hl; omega
    · rw [List.append_assoc]; exact q
/-- the number at a place, 0 behind the end -/
def gt (xs : List Rat) (k : Nat) : Rat := xs[k]?.getD 0
theorem gt_eq {xs : List Rat} {k : Nat} {x : Rat} (h : xs[k]? = some x) : gt xs k = x := by unfold gt; rw [h]; rfl
theorem prs_gt {xs : List Rat} {k : Nat} (h : k < xs.length) : gt xs k ∈ xs ∧ atI (prs xs) (k : Int) = some (pairD (gt xs k)) := by
  obtain ⟨q, e, m, a⟩ := prs_at (xs := xs) (k := (k : Int)) (by omega) (by omega)
  have e2 : gt xs k = q := gt_eq (by rw [← e]; rfl)
  rw [e2]
  exact ⟨m, a⟩
theorem map_pairs (f : Nat → Rat) (l : List Nat) : l.map (fun k => pairD (f k)) = prs (l.map f) := by unfold prs; rw [List.map_map]; rfl
/-- a comprehension that makes a value of each, by any telling of them -/
theorem lc_of {α : Type} {j : Nat} {te : DE} {δ : DS0} {Q : List D → Mem → Prop} (g f : α → D) (P : α → Prop) (h : ∀ r M (K : DK), P r → K (f r) M → te (δ.set j (some (g r))) M K) :
    ∀ (m : List α) (acc : List D) M, (∀ r, r ∈ m → P r) → acc.length + m.length ≤ sizeLine → Q (acc ++ m.map f) M → dLcL always (gNm j) dYes te δ (m.map g) acc M Q
  | [], acc, M, _, _, q => ⟨trivial, by simpa using q⟩
  | r :: m, acc, M, hp, hl, q => by
    refine ⟨trivial, by rw [List.length_cons] at hl; omega, ?_⟩
    refine ite_t (B := dLcL always (gNm j) dYes te δ (m.map g) acc M Q) (h r M _ (hp r List.mem_cons_self) (lc_of g f P h m _ M (fun y hy => hp y (List.mem_cons_of_mem _ hy)) ?_ ?_))
    · rw [List.length_append, List.length_singleton]; rw [List.length_cons] at hl; omega
    · rw [List.append_assoc]; exact q
/-- the same over zip -/
theorem lc_zipG {α β : Type} {i j : Nat} {te : DE} {δ : DS0} {Q : List D → Mem → Prop} (g : α → D) (g2 : β → D) (f : α → β → D) (P : α → β → Prop) (h : ∀ x y M (K : DK), P x y → K (f x y) M → te ((δ.set i (some (g x))).set j (some (g2 y))) M K) :
    ∀ (xs : List α) (ys : List β) (acc : List D) M, (∀ x y, x ∈ xs → y ∈ ys → P x y) → acc.length + xs.length ≤ sizeLine → Q (acc ++ List.zipWith f xs ys) M → dLcL always (gTu 2 (gsCons (gNm i) (gsCons (gNm j) gsNil))) dYes te δ (pairsD (xs.map g) (ys.map g2)) acc M Q
  | [], ys, acc, M, _, _, q => ⟨trivial, by simpa using q⟩
  | x :: xs, [], acc, M, _, _, q => ⟨trivial, by simpa using q⟩
  | x :: xs, y :: ys, acc, M, hp, hl, q => by
    refine ⟨trivial, by rw [List.length_cons] at hl; omega, _, rfl, rfl, _, _, rfl, _, _, rfl, rfl, ?_⟩
    refine ite_t (B := dLcL always (gTu 2 (gsCons (gNm i) (gsCons (gNm j) gsNil))) dYes te δ (pairsD (xs.map g) (ys.map g2)) acc M Q) (h x y M _ (hp x y List.mem_cons_self List.mem_cons_self) (lc_zipG g g2 f P h xs ys _ M (fun a b ha hb => hp a b (List.mem_cons_of_mem _ ha) (List.mem_cons_of_mem _ hb)) ?_ ?_))
    · rw [List.length_append, List.length_singleton]; rw [List.length_cons] at hl; omega
    · rw [List.append_assoc]; exact q
def sumM (a b : List (List Rat)) : List (List Rat) := List.zipWith (mapR2 fun x y => x + y) a b
def scaleM (q : Rat) (m : List (List Rat)) : List (List Rat) := m.map fun r => r.map (q * ·)
def Sms (m : List (List Rat)) : Prop := ∀ r, r ∈ m → ∀ x, x ∈ r → Sm x
def Len (m : List (List Rat)) : Prop := m.length ≤ 1000000 ∧ ∀ r, r ∈ m → r.length ≤ 1000000
/-- rows as the law keeps them -/
def lrow (r : List Rat) : D := .lst (prs r)
def rowsD (m : List (List Rat)) : D := .lst (m.map lrow)
theorem zip_map {α γ : Type} (f : α → α → α) (g : α → γ) (xs ys : List α) : List.zipWith (fun x y => g (f x y)) xs ys = (List.zipWith f xs ys).map g := by
  rw [List.map_zipWith]
inductive PDd
  | point (n : Str) (q : Rat)
  | appr (n : Str) (q : Rat)
  | remove (n : Str)
def PDd.dd : PDd → Dd
  | .point n q => .point n q
  | .appr n q => .appr n q
  | .remove n => .remove n
def sp_law_point_due : DSp := fun ds M Q _ => ∃ (m nr : Addr) (ks : List Str) (xs : List D) (b : Bk) (d : PDd), ds = [.ref m, ddD d.dd] ∧ MdAt m nr ks xs b M ∧ BkOk b ∧ ks.length ≤ 1000 ∧ DdOk d.dd ∧ Due m nr ks xs b (stp b d.dd) M Q
def w_law_point_due : DSt :=
  (dSeq (dSet 2 (dDGet (dVar 0) (dC (.str "points"))))
  (dSeq (dIf (dAnd (dTst (dOp rEqP (dOp rIxD (dVar 1) (dC (.int 0))) (dC (.str "point")))) (dTst (dOp rInP (dOp rIxD (dVar 1) (dC (.int 1))) (dVar 2))))
  (dRet (dCB rTup (dCons (dC (.str "duplicate")) (dCons (dOp rIxD (dVar 1) (dC (.int 1))) dNil))))
  dNext)
  (dSeq (dIf (dAnd (dTst (dOp rEqP (dOp rIxD (dVar 1) (dC (.int 0))) (dC (.str "point")))) (dTst (dOp rEqP (dCB rLen (dCons (dVar 2) dNil)) (dC (.int 12)))))
  (dRet (dCB rTup (dCons (dC (.str "limit")) (dCons (dC (.str "points")) dNil))))
  dNext)
  (dSeq (dIf (dAnd (dTst (dOp rNeP (dOp rIxD (dVar 1) (dC (.int 0))) (dC (.str "point")))) (dTst (dOp rNotInP (dOp rIxD (dVar 1) (dC (.int 1))) (dVar 2))))
  (dRet (dCB rTup (dCons (dC (.str "point")) (dCons (dOp rIxD (dVar 1) (dC (.int 1))) dNil))))
  dNext)
  (dSeq (dSet 3 (dCB rDictK (dCons (dDGet (dVar 0) (dC (.str "near"))) dNil)))
  (dSeq (dIf (dTst (dOp rEqP (dOp rIxD (dVar 1) (dC (.int 0))) (dC (.str "remove"))))
  (dSeq (dFor (dIt (dDGet (dVar 0) (dC (.str "readings")))) (gNm 4)
  (dIf (dTst (dOp rInP (dOp rIxD (dVar 1) (dC (.int 1))) (dLc (dIt (dOp rIxD (dVar 4) (dC (.int 1)))) (gNm 6) dYes (dOp rIxD (dVar 6) (dC (.int 0))) [6])))
  (dRet (dCB rTup (dCons (dC (.str "reading")) (dCons (dC (.str "used")) dNil))))
  dNext))
  (dSeq (dDPut (dVar 0) (dC (.str "points")) (dLc (dIt (dVar 2)) (gNm 5) (dTst (dOp rNeP (dVar 5) (dOp rIxD (dVar 1) (dC (.int 1))))) (dVar 5) [5]))
  (dRet (dC .non))))
  dNext)
  (dSeq (dIf (dTst (dOp rEqP (dOp rIxD (dVar 1) (dC (.int 0))) (dC (.str "point"))))
  (dDPut (dVar 0) (dC (.str "points")) (dOp rAddP (dVar 2) (dCB rLstV (dCons (dOp rIxD (dVar 1) (dC (.int 1))) dNil))))
  dNext)
  (dSeq (dDPut (dVar 3) (dOp rIxD (dVar 1) (dC (.int 1))) (dOp rIxD (dVar 1) (dC (.int 2))))
  (dSeq (dDPut (dVar 0) (dC (.str "near")) (dVar 3))
  (dRet (dC .non)))))))))))
theorem rd_law_point_due (ds M Q E) (h : sp_law_point_due ds M Q E) : w_law_point_due { nx := fun _ M' => Q .non M', rt := Q } (startD 7 ds) M := by
  obtain ⟨m, nr, ks, xs, b, d, rfl, A, ok, hks, sd, hq⟩ := h
  have hl := A.len
  refine ⟨_, rfl, m, _, _, _, _, rfl, rfl, A.at_, rfl, ?_⟩
  cases d with
  | point n q =>
    have sn : SO n := sd
    have hq : Due m nr ks xs b (addP b n q) M Q := hq
    unfold addP at hq
    refine ⟨_, rfl, 0, rfl, _, rfl, .inl ⟨by decide +kernel, by decide +kernel, eS ⟨_, rfl, ite_t ⟨_, rfl, 1, rfl, _, rfl, _, rfl, _, rfl, sn, pl_strs ok.so, mS ⟨_, rfl, ite_d (fun c => ?_) fun c => ?_⟩⟩⟩⟩⟩
    · rw [if_pos c] at hq
      exact ⟨_, rfl, 1, rfl, _, rfl, by show 2 ≤ sizeLine; decide, hq M KpX.refl A⟩
    rw [if_neg c] at hq
    refine ⟨_, rfl, 0, rfl, _, rfl, .inl ⟨by decide +kernel, by decide +kernel, eS ⟨_, rfl, ite_t ⟨_, rfl, _, b.pts.length, rfl, by show _ = (b.pts.map D.str).length; rw [List.length_map], .inl ⟨rfl, rfl, eI ⟨_, rfl, ite_d (fun c2 => ?_) fun c2 => ?_⟩⟩⟩⟩⟩⟩
    · rw [if_pos (by omega)] at hq
      exact ⟨by show 2 ≤ sizeLine; decide, hq M KpX.refl A⟩
    rw [if_neg (by omega)] at hq
    refine ⟨_, rfl, 0, rfl, _, rfl, .inl ⟨by decide +kernel, by decide +kernel, nS ⟨_, rfl, ite_f (ite_f ?_)⟩⟩⟩
    refine ⟨_, rfl, m, _, _, _, _, rfl, rfl, A.at_, rfl, nr, ks, xs, rfl, A.nrAt, fun a ha => ?_⟩
    have nma : m ≠ a := fun e => by rw [← e, A.at_] at ha; cases ha
    have nra : nr ≠ a := fun e => by rw [← e, A.nrAt] at ha; cases ha
    have Ma : mput M a (.dic ks xs) m = _ := (mput_ne nma).trans A.at_
    refine ⟨_, rfl, 0, rfl, _, rfl, .inl ⟨by decide +kernel, by decide +kernel, eS ⟨_, rfl, ite_f ?_⟩⟩⟩
    refine ⟨_, rfl, 0, rfl, _, rfl, .inl ⟨by decide +kernel, by decide +kernel, eS ⟨_, rfl, ite_t ?_⟩⟩⟩
    refine ⟨_, rfl, _, rfl, 1, rfl, _, rfl, by show 1 ≤ sizeLine; decide, ?_, _, rfl, m, _, _, _, rfl, rfl, Ma, by show 3 < sizeLine; decide, ?_⟩
    · rw [List.length_map]; exact sz16 (by have := ok.few; show _ + 1 ≤ _; omega)
    refine ⟨_, rfl, 2, rfl, _, rfl, _, rfl, _, rfl, 1, rfl, _, rfl, a, ks, xs, n, rfl, rfl, ?_, sz16lt (by omega), ?_⟩
    · rw [mput_ne nma.symm, mput_same]
    refine ⟨_, rfl, _, rfl, m, ["points", "near", "readings"], [.lst (b.pts.map D.str ++ [.str n]), .ref nr, .lst (b.rds.map rowD)], _, rfl, rfl, ?_, by show 3 < sizeLine; decide, ?_⟩
    · rw [mput_ne nma, mput_same]; rfl
    obtain ⟨ks', xs', hp, hl', hg⟩ := putD_get (n := n) (q := q) (b := b) hl ok.len c A.get
    have := hq a ks' xs' (mput (mput (mput (mput M a (.dic ks xs)) m (.dic ["points", "near", "readings"] [.lst (b.pts.map D.str ++ [.str n]), .ref nr, .lst (b.rds.map rowD)])) a (.dic ks' xs')) m (.dic ["points", "near", "readings"] [.lst (b.pts.map D.str ++ [.str n]), .ref a, .lst (b.rds.map rowD)])) ⟨by rw [mput_same, List.map_append]; rfl, by rw [mput_ne nma.symm, mput_same], hg, nma.symm, hl'.2⟩ hl'.1 (.inr ha) ?_
    · rw [← hp] at this; exact this
    · refine KpX.put fun x o nx e => ?_
      have nxa : x ≠ a := fun z => by rw [z, ha] at e; cases e
      rw [mput_ne nxa, mput_ne nx, mput_ne nxa]; exact e
  | appr n q =>
    have sn : SO n := sd
    have hq : Due m nr ks xs b (chA b n q) M Q := hq
    unfold chA at hq
    refine ⟨_, rfl, 0, rfl, _, rfl, .inl ⟨by decide +kernel, by decide +kernel, eS ⟨_, rfl, ite_f (ite_f ?_)⟩⟩⟩
    refine ⟨_, rfl, 0, rfl, _, rfl, .inl ⟨by decide +kernel, by decide +kernel, eS ⟨_, rfl, ite_f (ite_f ?_)⟩⟩⟩
    refine ⟨_, rfl, 0, rfl, _, rfl, .inl ⟨by decide +kernel, by decide +kernel, nS ⟨_, rfl, ite_t ⟨_, rfl, 1, rfl, _, rfl, _, rfl, _, rfl, sn, pl_strs ok.so, nmS ⟨_, rfl, ?_⟩⟩⟩⟩⟩
    by_cases c : n ∈ b.pts
    case neg =>
      rw [if_neg c] at hq
      rw [decide_eq_false c]
      exact ite_t ⟨_, rfl, 1, rfl, _, rfl, by show 2 ≤ sizeLine; decide, hq M KpX.refl A⟩
    rw [if_pos c] at hq
    rw [decide_eq_true c]
    refine ite_f ⟨_, rfl, m, _, _, _, _, rfl, rfl, A.at_, rfl, nr, ks, xs, rfl, A.nrAt, fun a ha => ?_⟩
    have nma : m ≠ a := fun e => by rw [← e, A.at_] at ha; cases ha
    have nra : nr ≠ a := fun e => by rw [← e, A.nrAt] at ha; cases ha
    refine ⟨_, rfl, 0, rfl, _, rfl, .inl ⟨by decide +kernel, by decide +kernel, eS ⟨_, rfl, ite_f ?_⟩⟩⟩
    refine ⟨_, rfl, 0, rfl, _, rfl, .inl ⟨by decide +kernel, by decide +kernel, eS ⟨_, rfl, ite_f ?_⟩⟩⟩
    refine ⟨_, rfl, 2, rfl, _, rfl, _, rfl, _, rfl, 1, rfl, _, rfl, a, ks, xs, n, rfl, rfl, mput_same, sz16lt (by omega), ?_⟩
    refine ⟨_, rfl, _, rfl, m, ["points", "near", "readings"], [.lst (b.pts.map D.str), .ref nr, .lst (b.rds.map rowD)], _, rfl, rfl, ?_, by show 3 < sizeLine; decide, ?_⟩
    · rw [mput_ne nma, mput_ne nma]; exact A.at_
    obtain ⟨ks', xs', hp, hl', hg⟩ := putD_set (n := n) (q := q) (b := b) hl ok.len A.get
    have := hq a ks' xs' (mput (mput (mput M a (.dic ks xs)) a (.dic ks' xs')) m (.dic ["points", "near", "readings"] [.lst (b.pts.map D.str), .ref a, .lst (b.rds.map rowD)])) ⟨by rw [mput_same], by rw [mput_ne nma.symm, mput_same], hg, nma.symm, hl'.2⟩ hl'.1 (.inr ha) ?_
    · rw [← hp] at this; exact this
    · refine KpX.put fun x o nx e => ?_
      have nxa : x ≠ a := fun z => by rw [z, ha] at e; cases e
      rw [mput_ne nxa, mput_ne nxa]; exact e
  | remove n =>
    have sn : SO n := sd
    have hq : Due m nr ks xs b (rmP b n) M Q := hq
    unfold rmP at hq
    refine ⟨_, rfl, 0, rfl, _, rfl, .inl ⟨by decide +kernel, by decide +kernel, eS ⟨_, rfl, ite_f (ite_f ?_)⟩⟩⟩
    refine ⟨_, rfl, 0, rfl, _, rfl, .inl ⟨by decide +kernel, by decide +kernel, eS ⟨_, rfl, ite_f (ite_f ?_)⟩⟩⟩
    refine ⟨_, rfl, 0, rfl, _, rfl, .inl ⟨by decide +kernel, by decide +kernel, nS ⟨_, rfl, ite_t ⟨_, rfl, 1, rfl, _, rfl, _, rfl, _, rfl, sn, pl_strs ok.so, nmS ⟨_, rfl, ?_⟩⟩⟩⟩⟩
    by_cases c : n ∈ b.pts
    case neg =>
      rw [if_neg c] at hq
      rw [decide_eq_false c]
      exact ite_t ⟨_, rfl, 1, rfl, _, rfl, by show 2 ≤ sizeLine; decide, hq M KpX.refl A⟩
    rw [if_pos c] at hq
    rw [decide_eq_true c]
    refine ite_f ⟨_, rfl, m, _, _, _, _, rfl, rfl, A.at_, rfl, nr, ks, xs, rfl, A.nrAt, fun a ha => ?_⟩
    have nma : m ≠ a := fun e => by rw [← e, A.at_] at ha; cases ha
    have nra : nr ≠ a := fun e => by rw [← e, A.nrAt] at ha; cases ha
    have kp1 : KpX m M (mput M a (.dic ks xs)) := KpX.new ha
    have A1 := A.kp kp1 (mput_ne nma)
    generalize mput M a (.dic ks xs) = M1 at kp1 A1
    refine ⟨_, rfl, 0, rfl, _, rfl, .inl ⟨by decide +kernel, by decide +kernel, eS ⟨_, rfl, ite_t ?_⟩⟩⟩
    refine ⟨_, rfl, m, _, _, _, _, rfl, rfl, A1.at_, rfl, ?_⟩
    refine dLoop_ind (fun rest δ M5 => M5 = M1 ∧ ∃ (l : List Rdg) (a4 : Option D), rest = l.map rowD ∧ (∀ s, s ∈ l → RdgOk s) ∧ used n b.rds = used n l ∧ δ = [some (.ref m), some (ddD (.remove n)), some (.lst (b.pts.map D.str)), some (.ref a), a4, none, none]) ?_ ?_ _ _ _ ⟨rfl, b.rds, none, rfl, ok.ro, rfl, rfl⟩
    · rintro d0 xs δ M5 K hK ⟨rfl, l, a5, e, hs, hu, rfl⟩
      cases l with
      | nil => cases e
      | cons s l =>
        injection e with e1 e2
        subst e1; subst e2
        have so := hs s List.mem_cons_self
        refine ⟨trivial, _, rfl, 1, rfl, _, rfl, _, rfl, 1, rfl, _, rfl, ?_⟩
        refine lc_of (j := 6) trmD (fun x => D.str x.1) (fun _ => True) (fun r M K _ k => ⟨_, rfl, 0, rfl, _, rfl, k⟩) s.terms [] _ (fun _ _ => trivial) (by show 0 + _ ≤ _; have := so.few; exact sz16 (by omega)) ?_
        rw [List.nil_append, show (s.terms.map fun x => D.str x.1) = (s.terms.map Prod.fst).map D.str by rw [List.map_map]; rfl]
        refine ⟨_, rfl, sn, pl_strs fun x hx => (by
            obtain ⟨t, ht, rfl⟩ := List.mem_map.mp hx
            exact so.tm t ht), mS ⟨_, rfl, ite_d (fun h => ?_) fun h => ?_⟩⟩
        · have : used n b.rds = true := by rw [hu]; show (decide (n ∈ s.terms.map Prod.fst) || _) = true; rw [decide_eq_true h]; rfl
          rw [if_pos this] at hq
          exact ⟨by show 2 ≤ sizeLine; decide, hq _ kp1 A1⟩
        · refine hK _ _ ⟨rfl, l, _, rfl, fun s hs2 => hs s (List.mem_cons_of_mem _ hs2), ?_, rfl⟩
          rw [hu]; show (decide (n ∈ s.terms.map Prod.fst) || used n l) = _; rw [decide_eq_false h]; rfl
    · rintro δ M5 ⟨rfl, l, a5, e, hs, hu, rfl⟩
      cases l with
      | cons x t' => cases e
      | nil =>
        rw [if_neg (by rw [hu]; exact Bool.false_ne_true)] at hq
        refine ⟨trivial, _, rfl, ?_⟩
        refine lc_keep n sn (fun z => rfl) (by show 5 < 7; decide) b.pts [] ok.so (by show 0 + _ ≤ _; have := ok.few; exact sz16 (by omega)) ?_
        rw [List.nil_append, ← delK_self]
        refine ⟨_, rfl, m, _, _, _, rfl, rfl, A1.at_, by show 3 < sizeLine; decide, ?_⟩
        refine hq nr ks xs _ ⟨mput_same, by rw [mput_ne A.ne]; exact A1.nrAt, fun j q hj => A.get j q (getK_delK hj ok.len), A.ne, A.len⟩ (by omega) (.inl rfl) (KpX.put kp1)
def sp_law_terms_fit : DSp := fun ds M Q _ => ∃ t : List (Str × Int), ds = [trmsD t] ∧ Q (.bl (fits t)) M
def w_law_terms_fit : DSt :=
  (dSeq (dSet 1 (dC (.str "")))
  (dSeq (dFor (dIt (dVar 0)) (gTu 2 (gsCons (gNm 2) (gsCons (gNm 3) gsNil)))
  (dSeq (dIf (dOr (dTst (dOp rEqP (dVar 3) (dC (.int 0)))) (dOr (dTst (dOp rLt (dVar 3) (dUn rNeg (dC (.int 9))))) (dOr (dTst (dOp rGt (dVar 3) (dC (.int 9)))) (dNot (dTst (dOp rLtS (dVar 1) (dVar 2)))))))
  (dRet (dC (.bl false)))
  dNext)
  (dSet 1 (dVar 2))))
  (dRet (dOp rGt (dCB rLen (dCons (dVar 0) dNil)) (dC (.int 0))))))
theorem rd_law_terms_fit (ds M Q E) (h : sp_law_terms_fit ds M Q E) : w_law_terms_fit { nx := fun _ M' => Q .non M', rt := Q } (startD 4 ds) M := by
  obtain ⟨t, rfl, hq⟩ := h
  refine ⟨_, rfl, ?_⟩
  refine dLoop_ind (fun rest δ M5 => M5 = M ∧ ∃ (t' : List (Str × Int)) (b : Str) (a2 a3 : Option D), rest = t'.map trmD ∧ fits t = (fitG b t' && decide (0 < t.length)) ∧ δ = [some (trmsD t), some (.str b), a2, a3]) ?_ ?_ _ _ _ ⟨rfl, t, "", none, none, rfl, rfl, rfl⟩
  · rintro d0 xs δ M5 K hK ⟨rfl, t', b, a2, a3, e, hf, rfl⟩
    cases t' with
    | nil => cases e
    | cons x t' =>
      obtain ⟨n, c⟩ := x
      injection e with e1 e2
      subst e1; subst e2
      have e0 : fitG b ((n, c) :: t') = (!decide (c = 0) && (decide (-9 ≤ c) && (decide (c ≤ 9) && (ltS b n && fitG n t')))) := rfl
      have bad : fitG b ((n, c) :: t') = false → Q (.bl false) M5 := fun z => by rw [hf, z] at hq; exact hq
      refine ⟨trivial, _, rfl, rfl, _, _, rfl, _, _, rfl, rfl, ?_⟩
      refine ⟨_, rfl, Or.inl ⟨rfl, rfl, eI ⟨_, rfl, ite_d (fun h0 => ite_t (bad ?_)) fun h0 => ?_⟩⟩⟩
      · rw [e0, decide_eq_true h0]; rfl
      refine ⟨_, rfl, trivial, _, rfl, ite_d (fun h1 => ite_t (bad ?_)) fun h1 => ?_⟩
      · rw [e0, decide_eq_false (show ¬ -9 ≤ c by omega)]; simp
      refine ⟨_, rfl, trivial, _, rfl, ite_d (fun h2 => ite_t (bad ?_)) fun h2 => ?_⟩
      · rw [e0, decide_eq_false (show ¬ c ≤ 9 by omega)]; simp
      refine ⟨_, rfl, _, rfl, _, _, rfl, rfl, _, rfl, ?_⟩
      by_cases h3 : ltS b n = true
      · rw [show decide (b.cps.toList < n.cps.toList) = true from h3]
        refine ite_f ⟨_, rfl, hK _ _ ⟨rfl, t', n, _, _, rfl, ?_, rfl⟩⟩
        rw [hf, e0, decide_eq_false h0, decide_eq_true (show -9 ≤ c by omega), decide_eq_true (show c ≤ 9 by omega), h3]; rfl
      · rw [show decide (b.cps.toList < n.cps.toList) = false from Bool.eq_false_iff.mpr h3]
        refine ite_t (bad ?_)
        rw [e0, Bool.eq_false_iff.mpr h3]; simp
  · rintro δ M5 ⟨rfl, t', b, a2, a3, e, hf, rfl⟩
    cases t' with
    | cons x t' => cases e
    | nil =>
      refine ⟨trivial, ⟨_, rfl, _, _, rfl, rfl, trivial, ?_⟩⟩
      show Q (.bl (decide ((0 : Int) < ((t.map trmD).length : Int)))) M5
      rw [len_pos, show decide (0 < t.length) = fits t from hf.symm]
      exact hq
def sp_law_reading_due : DSp := fun ds M Q _ => ∃ (m nr : Addr) (ks : List Str) (xs : List D) (b : Bk) (r : Rdg), ds = [.ref m, ddD (.reading r)] ∧ MdAt m nr ks xs b M ∧ BkOk b ∧ RdgOk r ∧ Due m nr ks xs b (addR b r) M Q
def w_law_reading_due : DSt :=
  (dSeq (dIf (dTst (dOp rInP (dOp rIxD (dVar 1) (dC (.int 1))) (dLc (dIt (dDGet (dVar 0) (dC (.str "readings")))) (gNm 4) dYes (dOp rIxD (dVar 4) (dC (.int 0))) [4])))
  (dRet (dCB rTup (dCons (dC (.str "duplicate")) (dCons (dOp rIxD (dVar 1) (dC (.int 1))) dNil))))
  dNext)
  (dSeq (dIf (dNot (dTru (dCall sp_law_terms_fit (dCons (dOp rIxD (dVar 1) (dC (.int 2))) dNil))))
  (dRet (dCB rTup (dCons (dC (.str "reading")) (dCons (dC (.str "terms")) dNil))))
  dNext)
  (dSeq (dFor (dIt (dOp rIxD (dVar 1) (dC (.int 2)))) (gTu 2 (gsCons (gNm 2) (gsCons (gNm 3) gsNil)))
  (dIf (dTst (dOp rNotInP (dVar 2) (dDGet (dVar 0) (dC (.str "points")))))
  (dRet (dCB rTup (dCons (dC (.str "point")) (dCons (dVar 2) dNil))))
  dNext))
  (dSeq (dIf (dTst (dOp rLe (dOp rIxD (dOp rIxD (dVar 1) (dC (.int 4))) (dC (.int 0))) (dC (.int 0))))
  (dRet (dCB rTup (dCons (dC (.str "reading")) (dCons (dC (.str "weight")) dNil))))
  dNext)
  (dSeq (dIf (dTst (dOp rEqP (dCB rLen (dCons (dDGet (dVar 0) (dC (.str "readings"))) dNil)) (dC (.int 24))))
  (dRet (dCB rTup (dCons (dC (.str "limit")) (dCons (dC (.str "readings")) dNil))))
  dNext)
  (dSeq (dDPut (dVar 0) (dC (.str "readings")) (dOp rAddP (dDGet (dVar 0) (dC (.str "readings"))) (dCB rLstV (dCons (dSl (dVar 1) (dPart (dC (.int 1))) dNoPart) dNil))))
  (dRet (dC .non))))))))
theorem rd_law_reading_due (ds M Q E) (h : sp_law_reading_due ds M Q E) : w_law_reading_due { nx := fun _ M' => Q .non M', rt := Q } (startD 5 ds) M := by
  obtain ⟨m, nr, ks, xs, b, r, rfl, A, ok, ro, hq⟩ := h
  have l2 : 2 ≤ sizeLine := by decide
  refine ⟨_, rfl, 1, rfl, _, rfl, ?_⟩
  refine ⟨_, rfl, m, _, _, _, _, rfl, rfl, A.at_, rfl, ?_⟩
  refine lc_of (j := 4) rowD (fun x => D.str x.name) (fun _ => True) (fun r M K _ k => ⟨_, rfl, 0, rfl, _, rfl, k⟩) b.rds [] _ (fun _ _ => trivial) (by show 0 + _ ≤ _; have := ok.fewR; exact sz16 (by omega)) ?_
  rw [List.nil_append, show (b.rds.map fun x => D.str x.name) = (b.rds.map Rdg.name).map D.str by rw [List.map_map]; rfl]
  refine ⟨_, rfl, ro.nm, pl_strs fun x hx => (by
    obtain ⟨t, ht, rfl⟩ := List.mem_map.mp hx
    exact (ok.ro t ht).nm), mS ⟨_, rfl, ite_d (fun h => ?_) fun h => ?_⟩⟩
  · unfold addR at hq
    rw [if_pos h] at hq
    exact ⟨_, rfl, 1, rfl, _, rfl, l2, hq M KpX.refl A⟩
  unfold addR at hq
  rw [if_neg h] at hq
  refine ⟨_, rfl, 2, rfl, _, rfl, r.terms, rfl, _, rfl, ?_⟩
  by_cases c2 : fits r.terms = true
  case neg =>
    rw [if_neg c2] at hq
    rw [Bool.eq_false_iff.mpr c2]
    exact ite_t ⟨l2, hq M KpX.refl A⟩
  rw [if_pos c2] at hq
  rw [c2]
  refine ite_f ⟨_, rfl, 2, rfl, _, rfl, ?_⟩
  have key : ∀ De : DEnds, De.rt = Q → (∀ (a6 a7 : Option D), unk b.pts r.terms = none → De.nx [some (.ref m), some (ddD (.reading r)), a6, a7, none] M) → dLoop always (gTu 2 (gsCons (gNm 2) (gsCons (gNm 3) gsNil))) (dIf (dTst (dOp rNotInP (dVar 2) (dDGet (dVar 0) (dC (.str "points"))))) (dRet (dCB rTup (dCons (dC (.str "point")) (dCons (dVar 2) dNil)))) dNext) (r.terms.map trmD) De [some (.ref m), some (ddD (.reading r)), none, none, none] M := fun De eD hn => by
    refine dLoop_ind (fun rest δ M6 => M6 = M ∧ ∃ (t : List (Str × Int)) (a6 a7 : Option D), rest = t.map trmD ∧ (∀ x, x ∈ t → SO x.1) ∧ unk b.pts r.terms = unk b.pts t ∧ δ = [some (.ref m), some (ddD (.reading r)), a6, a7, none]) ?_ ?_ _ _ _ ⟨rfl, r.terms, none, none, rfl, ro.tm, rfl, rfl⟩
    · rintro d0 ys δ M6 K hK ⟨rfl, t, a6, a7, e, hs, hu, rfl⟩
      cases t with
      | nil => cases e
      | cons x t =>
        obtain ⟨n, c⟩ := x
        injection e with e1 e2
        subst e1; subst e2
        refine ⟨trivial, _, rfl, rfl, _, _, rfl, _, _, rfl, rfl, ?_⟩
        refine ⟨_, rfl, _, rfl, m, _, _, _, _, rfl, rfl, A.at_, rfl, _, rfl, hs _ List.mem_cons_self, pl_strs ok.so, nmS ⟨_, rfl, ?_⟩⟩
        by_cases hin : n ∈ b.pts
        · rw [decide_eq_true hin]
          exact ite_f (hK _ _ ⟨rfl, t, _, _, rfl, fun y hy => hs y (List.mem_cons_of_mem _ hy), by rw [hu, show unk b.pts ((n, c) :: t) = unk b.pts t from if_pos hin], rfl⟩)
        · rw [decide_eq_false hin]
          rw [hu, show unk b.pts ((n, c) :: t) = some n from if_neg hin] at hq
          refine ite_t ⟨_, rfl, l2, ?_⟩
          show De.rt _ _
          rw [eD]
          exact hq _ KpX.refl A
    · rintro δ M6 ⟨rfl, t, a6, a7, e, hs, hu, rfl⟩
      cases t with
      | cons x t => cases e
      | nil => exact ⟨trivial, hn a6 a7 hu⟩
  refine key _ rfl fun a6 a7 hu => ?_
  rw [hu] at hq
  have hq : Due m nr ks xs b (if r.weight.num ≤ 0 then .error (.badr, "weight") else if b.rds.length = 24 then .error (.lim, "readings") else .ok ⟨b.pts, b.near, b.rds ++ [r]⟩) M Q := hq
  refine ⟨_, rfl, 4, rfl, _, rfl, 0, rfl, _, rfl, trivial, _, rfl, ite_d (fun h => ?_) fun h => ?_⟩
  · rw [if_pos h] at hq; exact ⟨l2, hq M KpX.refl A⟩
  rw [if_neg h] at hq
  refine ⟨_, rfl, m, _, _, _, _, rfl, rfl, A.at_, rfl, _, b.rds.length, rfl, by show _ = (b.rds.map rowD).length; rw [List.length_map], .inl ⟨rfl, rfl, eI ⟨_, rfl, ite_d (fun h => ?_) fun h => ?_⟩⟩⟩
  · rw [if_pos (by omega)] at hq; exact ⟨l2, hq M KpX.refl A⟩
  rw [if_neg (by omega)] at hq
  refine ⟨_, rfl, m, _, _, _, _, rfl, rfl, A.at_, rfl, _, rfl, _, rfl, .inr (.inr ⟨_, rfl, ?_⟩)⟩
  have ec : cutD [.str "reading", .str r.name, trmsD r.terms, pairD r.value, pairD r.weight] (some 1) none = [.str r.name, trmsD r.terms, pairD r.value, pairD r.weight] := cut_dropN (k := 1) (by show 1 ≤ 5; decide)
  rw [ec]
  refine ⟨by show 1 ≤ sizeLine; decide, ?_, _, rfl, m, _, _, _, rfl, rfl, A.at_, by show 3 < sizeLine; decide, ?_⟩
  · rw [List.length_map]; exact sz16 (by have := ok.fewR; show _ + 1 ≤ _; omega)
  have := hq nr ks xs _ (A.rds (b.rds ++ [r])) (by omega) (.inl rfl) (KpX.put KpX.refl)
  rw [List.map_append] at this
  exact this
/-! plain laws of matrices of fractions -/
def sumR : Nat → (Nat → Rat) → Rat
  | 0, _ => 0
  | n + 1, f => sumR n f + f n
theorem sum_congr {f g : Nat → Rat} : ∀ {n : Nat}, (∀ k, k < n → f k = g k) → sumR n f = sumR n g
  | 0, _ => rfl
  | n + 1, h => by
    show sumR n f + f n = sumR n g + g n
    rw [sum_congr (fun k hk => h k (by omega)), h n (by omega)]
theorem sum_add (f g : Nat → Rat) : ∀ n : Nat, sumR n (fun k => f k + g k) = sumR n f + sumR n g
  | 0 => by show (0 : Rat) = 0 + 0; grind
  | n + 1 => by
    show sumR n _ + (f n + g n) = (sumR n f + f n) + (sumR n g + g n)
    rw [sum_add f g n]; grind
theorem sum_mulL (c : Rat) (f : Nat → Rat) : ∀ n : Nat, sumR n (fun k => c * f k) = c * sumR n f
  | 0 => by show (0 : Rat) = c * 0; grind
  | n + 1 => by
    show sumR n _ + c * f n = c * (sumR n f + f n)
    rw [sum_mulL c f n]; grind
theorem sum_mulR (c : Rat) (f : Nat → Rat) (n : Nat) : sumR n (fun k => f k * c) = sumR n f * c := by
  rw [Rat.mul_comm, ← sum_mulL]; exact sum_congr fun k _ => Rat.mul_comm ..
theorem sum_zero (f : Nat → Rat) : ∀ n : Nat, (∀ k, k < n → f k = 0) → sumR n f = 0
  | 0, _ => rfl
  | n + 1, h => by
    show sumR n f + f n = 0
    rw [sum_zero f n (fun k hk => h k (by omega)), h n (by omega)]; grind
theorem sum_swap (f : Nat → Nat → Rat) (m : Nat) : ∀ n : Nat, sumR n (fun i => sumR m (fun j => f i j)) = sumR m (fun j => sumR n (fun i => f i j))
  | 0 => (sum_zero _ m fun _ _ => rfl).symm
  | n + 1 => by
    show sumR n _ + sumR m (fun j => f n j) = sumR m (fun j => sumR n (fun i => f i j) + f n j)
    rw [sum_swap f m n, sum_add]
/-- a sum with one term that counts -/
theorem sum_one (f : Nat → Rat) (i : Nat) : ∀ n : Nat, i < n → (∀ k, k < n → k ≠ i → f k = 0) → sumR n f = f i
  | 0, h, _ => by omega
  | n + 1, h, hz => by
    show sumR n f + f n = f i
    by_cases e : i = n
    · subst e
      rw [sum_zero f i fun k hk => hz k (by omega) (by omega)]; grind
    · rw [sum_one f i n (by omega) fun k hk => hz k (by omega), hz n (by omega) (Ne.symm e)]; grind
theorem sum_shift (f : Nat → Rat) : ∀ n : Nat, sumR (n + 1) f = f 0 + sumR n fun k => f (k + 1)
  | 0 => by show (0 : Rat) + f 0 = f 0 + 0; grind
  | n + 1 => by
    show sumR (n + 1) f + f (n + 1) = f 0 + (sumR n (fun k => f (k + 1)) + f (n + 1))
    rw [sum_shift f n]; grind
theorem gtR_cons0 (x : Rat) (xs : List Rat) : gtR (x :: xs) 0 = x := rfl
theorem gtR_consS (x : Rat) (xs : List Rat) (k : Nat) : gtR (x :: xs) (k + 1) = gtR xs k := rfl
theorem dot_sum : ∀ (xs ys : List Rat), xs.length = ys.length → dotR xs ys = sumR ys.length fun k => gtR xs k * gtR ys k
  | [], [], _ => rfl
  | [], _ :: _, h => by cases h
  | _ :: _, [], h => by cases h
  | x :: xs, y :: ys, h => by
    show x * y + dotR xs ys = sumR (ys.length + 1) _
    rw [sum_shift, dot_sum xs ys (by simpa using h)]; rfl
theorem row_ext {xs ys : List Rat} (h : xs.length = ys.length) (e : ∀ k, k < ys.length → gtR xs k = gtR ys k) : xs = ys := by
  refine List.ext_getElem h fun i h1 h2 => ?_
  have := e i h2
  unfold gtR at this
  rw [List.getElem?_eq_getElem h1, List.getElem?_eq_getElem h2] at this
  exact this
def rowR (m : List (List Rat)) (i : Nat) : List Rat := m[i]?.getD []
def ent (m : List (List Rat)) (i j : Nat) : Rat := gtR (rowR m i) j
theorem rowR_mem {m : List (List Rat)} {i : Nat} (h : i < m.length) : rowR m i ∈ m := by
  unfold rowR; rw [List.getElem?_eq_getElem h]; exact List.getElem_mem h
theorem mat_ext {w : Nat} {a b : List (List Rat)} (h : a.length = b.length) (ha : Wid w a) (hb : Wid w b) (e : ∀ i j, i < b.length → j < w → ent a i j = ent b i j) : a = b := by
  refine List.ext_getElem h fun i h1 h2 => ?_
  have ra : rowR a i = a[i] := by unfold rowR; rw [List.getElem?_eq_getElem h1]; rfl
  have rb : rowR b i = b[i] := by unfold rowR; rw [List.getElem?_eq_getElem h2]; rfl
  have la := ha _ (List.getElem_mem h1)
  have lb := hb _ (List.getElem_mem h2)
  refine row_ext (by rw [la, lb]) fun k hk => ?_
  have := e i k h2 (by omega)
  unfold ent at this
  rw [ra, rb] at this
  exact this
theorem row_map {f : List Rat → List Rat} {m : List (List Rat)} {i : Nat} (h : i < m.length) : rowR (m.map f) i = f (rowR m i) := by
  unfold rowR; rw [List.getElem?_map, List.getElem?_eq_getElem h]; rfl
theorem gt_map {f : List Rat → Rat} {m : List (List Rat)} {i : Nat} (h : i < m.length) : gtR (m.map f) i = f (rowR m i) := by
  unfold gtR rowR; rw [List.getElem?_map, List.getElem?_eq_getElem h]; rfl
theorem row_trans {m : List (List Rat)} {w i : Nat} (h : i < w) : rowR (transR m w) i = colR m i := by
  unfold rowR transR; rw [List.getElem?_map, List.getElem?_range' h]; simp
theorem ent_trans {m : List (List Rat)} {w i j : Nat} (h : i < w) (hj : j < m.length) : ent (transR m w) i j = ent m j i := by
  unfold ent; rw [row_trans h]; unfold colR; rw [gt_map hj]
theorem ent_prod {a b : List (List Rat)} {w i j : Nat} (ha : Wid b.length a) (hi : i < a.length) (hj : j < w) : ent (prodR a b w) i j = sumR b.length fun k => ent a i k * ent b k j := by
  unfold ent prodR
  rw [row_map hi]
  unfold applyR
  have lt : (transR b w).length = w := by unfold transR; rw [List.length_map, List.length_range']
  rw [gt_map (by rw [lt]; exact hj), row_trans hj]
  have lc : (colR b j).length = b.length := List.length_map ..
  have lr := ha _ (rowR_mem hi)
  rw [dot_sum _ _ (by rw [lc, lr]), lr]
  refine sum_congr fun k hk => ?_
  have : gtR (colR b j) k = gtR (rowR b k) j := by unfold colR; rw [gt_map hk]
  rw [this, Rat.mul_comm]
theorem gt_apply {m : List (List Rat)} {v : List Rat} {i : Nat} (hw : Wid v.length m) (hi : i < m.length) : gtR (applyR m v) i = sumR v.length fun k => ent m i k * gtR v k := by
  unfold applyR
  rw [gt_map hi, dot_sum _ _ (hw _ (rowR_mem hi))]
  rfl
theorem prod_wid (a b : List (List Rat)) (w : Nat) : Wid w (prodR a b w) := fun r hr => by
  obtain ⟨x, _, rfl⟩ := List.mem_map.mp hr
  show (applyR _ _).length = w
  unfold applyR transR; rw [List.length_map, List.length_map, List.length_range']
theorem prod_len (a b : List (List Rat)) (w : Nat) : (prodR a b w).length = a.length := List.length_map ..
/-- products do not depend on brackets -/
theorem prod_assoc {a b c : List (List Rat)} {w1 w2 : Nat} (ha : Wid b.length a) (hb : Wid c.length b) (h1 : w1 = c.length) : prodR (prodR a b w1) c w2 = prodR a (prodR b c w2) w2 := by
  refine mat_ext (w := w2) (by rw [prod_len, prod_len, prod_len]) (prod_wid _ _ _) (prod_wid _ _ _) fun i j hi hj => ?_
  rw [prod_len] at hi
  rw [ent_prod (by rw [← h1]; exact prod_wid a b w1) (by rw [prod_len]; exact hi) hj, ent_prod (by rw [prod_len]; exact ha) hi hj, prod_len]
  have e1 : (sumR c.length fun k => ent (prodR a b w1) i k * ent c k j) = sumR c.length fun k => sumR b.length fun l => ent a i l * ent b l k * ent c k j :=
    sum_congr fun k hk => by rw [ent_prod ha hi (by omega), sum_mulR]
  have e2 : (sumR b.length fun l => ent a i l * ent (prodR b c w2) l j) = sumR b.length fun l => sumR c.length fun k => ent a i l * ent b l k * ent c k j :=
    sum_congr fun l hl => by
      rw [ent_prod hb hl hj, ← sum_mulL]
      exact sum_congr fun k _ => by rw [Rat.mul_assoc]
  rw [e1, e2, sum_swap]
theorem trans_len' (b : List (List Rat)) (w : Nat) : (transR b w).length = w := by unfold transR; rw [List.length_map, List.length_range']
theorem trans_wid' (b : List (List Rat)) (w : Nat) : Wid b.length (transR b w) := fun r hr => by
  obtain ⟨j, _, rfl⟩ := List.mem_map.mp hr
  exact List.length_map ..
theorem apply_len (m : List (List Rat)) (v : List Rat) : (applyR m v).length = m.length := List.length_map ..
theorem apply_prod {a b : List (List Rat)} {x : List Rat} {w : Nat} (ha : Wid b.length a) (hb : Wid x.length b) (hw : w = x.length) : applyR (prodR a b w) x = applyR a (applyR b x) := by
  refine row_ext (by rw [apply_len, apply_len, prod_len]) fun i hi => ?_
  rw [apply_len] at hi
  rw [gt_apply (by rw [← hw]; exact prod_wid a b w) (by rw [prod_len]; exact hi), gt_apply (by rw [apply_len]; exact ha) hi, apply_len]
  have e1 : (sumR x.length fun k => ent (prodR a b w) i k * gtR x k) = sumR x.length fun k => sumR b.length fun l => ent a i l * ent b l k * gtR x k :=
    sum_congr fun k hk => by rw [ent_prod ha hi (by omega), sum_mulR]
  have e2 : (sumR b.length fun l => ent a i l * gtR (applyR b x) l) = sumR b.length fun l => sumR x.length fun k => ent a i l * ent b l k * gtR x k :=
    sum_congr fun l hl => by
      rw [gt_apply hb hl, ← sum_mulL]
      exact sum_congr fun k _ => by rw [Rat.mul_assoc]
  rw [e1, e2, sum_swap]
theorem trans_prod {a b : List (List Rat)} {w1 w2 : Nat} (ha : Wid b.length a) (hb : Wid w2 b) (h1 : w1 = b.length) : transR (prodR a b w2) w2 = prodR (transR b w2) (transR a w1) a.length := by
  refine mat_ext (w := a.length) (by rw [trans_len', prod_len, trans_len']) (by have := trans_wid' (prodR a b w2) w2; rw [prod_len] at this; exact this) (prod_wid _ _ _) fun i j hi hj => ?_
  rw [prod_len, trans_len'] at hi
  rw [ent_trans hi (by rw [prod_len]; exact hj), ent_prod ha hj hi, ent_prod (by rw [trans_len', h1]; exact trans_wid' b w2) (by rw [trans_len']; exact hi) hj, trans_len', h1]
  refine sum_congr fun k hk => ?_
  rw [ent_trans hi hk, ent_trans hk hj, Rat.mul_comm]
theorem trans_trans {a : List (List Rat)} {w : Nat} (ha : Wid w a) : transR (transR a w) a.length = a := by
  refine mat_ext (w := w) (by rw [trans_len']) (by have := trans_wid' (transR a w) a.length; rw [trans_len'] at this; exact this) ha fun i j hi hj => ?_
  rw [ent_trans hi (by rw [trans_len']; exact hj), ent_trans hj hi]
theorem ident_len (n : Nat) : (identR n).length = n := by unfold identR; rw [List.length_map, List.length_range']
theorem ident_wid (n : Nat) : Wid n (identR n) := fun r hr => by
  obtain ⟨j, _, rfl⟩ := List.mem_map.mp hr
  rw [List.length_map, List.length_range']
theorem ent_ident {n i j : Nat} (hi : i < n) (hj : j < n) : ent (identR n) i j = if j = i then 1 else 0 := by
  unfold ent rowR identR
  rw [List.getElem?_map, List.getElem?_range' hi]
  unfold gtR
  simp only [Option.map_some, Option.getD_some, Nat.zero_add, Nat.one_mul]
  rw [List.getElem?_map, List.getElem?_range' hj]
  simp
theorem prod_ident {a : List (List Rat)} {w : Nat} (ha : Wid w a) : prodR a (identR w) w = a := by
  refine mat_ext (w := w) (prod_len ..) (prod_wid _ _ _) ha fun i j hi hj => ?_
  rw [ent_prod (by rw [ident_len]; exact ha) hi hj, ident_len, sum_one _ j w hj fun k hk hne => by rw [ent_ident hk hj, if_neg (Ne.symm hne)]; grind]
  rw [ent_ident hj hj, if_pos rfl]; grind
theorem ident_prod {a : List (List Rat)} {w : Nat} (ha : Wid w a) : prodR (identR a.length) a w = a := by
  refine mat_ext (w := w) (by rw [prod_len, ident_len]) (prod_wid _ _ _) ha fun i j hi hj => ?_
  rw [ent_prod (ident_wid _) (by rw [ident_len]; exact hi) hj, sum_one _ i a.length hi fun k hk hne => by rw [ent_ident hi hk, if_neg hne]; grind]
  rw [ent_ident hi hi, if_pos rfl]; grind
theorem apply_outer (y z : List Rat) : applyR (outerR y z) z = y.map (dotR z z * ·) := by
  unfold applyR outerR
  rw [List.map_map]
  refine List.map_congr_left fun x _ => ?_
  show dotR (z.map fun t => x * t) z = dotR z z * x
  have h : ∀ (u v : List Rat), dotR (u.map fun t => x * t) v = dotR u v * x := by
    intro u
    induction u with
    | nil => intro v; show (0 : Rat) = 0 * x; grind
    | cons a u ih =>
      intro v
      cases v with
      | nil => show (0 : Rat) = 0 * x; grind
      | cons b v =>
        show x * a * b + dotR (u.map fun t => x * t) v = (a * b + dotR u v) * x
        rw [ih]; grind
  exact h z z
theorem dot_move {a : List (List Rat)} {y z : List Rat} {w : Nat} (ha : Wid z.length a) (hy : y.length = a.length) (hw : w = z.length) : dotR (applyR a z) y = dotR z (applyR (transR a w) y) := by
  rw [dot_sum _ _ (by rw [apply_len, hy]), dot_sum _ _ (by rw [apply_len, trans_len', hw]), apply_len, trans_len', hw]
  have e1 : (sumR y.length fun k => gtR (applyR a z) k * gtR y k) = sumR y.length fun k => sumR z.length fun l => ent a k l * gtR z l * gtR y k :=
    sum_congr fun k hk => by rw [gt_apply ha (by omega), sum_mulR]
  have e2 : (sumR z.length fun l => gtR z l * gtR (applyR (transR a z.length) y) l) = sumR z.length fun l => sumR y.length fun k => ent a k l * gtR z l * gtR y k :=
    sum_congr fun l hl => by
      rw [gt_apply (by rw [hy]; exact trans_wid' a _) (by rw [trans_len']; exact hl), ← sum_mulL]
      refine sum_congr fun k hk => ?_
      rw [ent_trans hl (by omega)]; grind
  rw [e1, e2, sum_swap]
theorem prod_sym {a : List (List Rat)} {w : Nat} (ha : Wid w a) : transR (prodR a (transR a w) a.length) a.length = prodR a (transR a w) a.length := by
  rw [trans_prod (w1 := w) (by rw [trans_len']; exact ha) (trans_wid' a w) (by rw [trans_len']), trans_trans ha]
/-- sizes -/
theorem bt_dot {n : Nat} : ∀ {xs ys : List Rat}, xs.length = ys.length → Bts n xs → Bts n ys → Bt ((2 * n + 1) * ys.length) (dotR xs ys)
  | [], [], _, _, _ => ⟨Nat.zero_le _, Nat.one_le_two_pow⟩
  | [], _ :: _, h, _, _ => by cases h
  | _ :: _, [], h, _, _ => by cases h
  | x :: xs, y :: ys, h, hx, hy => by
    have a := bt_mul (hx x List.mem_cons_self) (hy y List.mem_cons_self)
    have b := bt_dot (xs := xs) (ys := ys) (by simpa using h) (fun z hz => hx z (List.mem_cons_of_mem _ hz)) fun z hz => hy z (List.mem_cons_of_mem _ hz)
    refine (bt_add a b).mono ?_
    rw [List.length_cons, Nat.mul_add]; omega
theorem bts_apply {n : Nat} {m : List (List Rat)} {v : List Rat} (hw : Wid v.length m) (hm : Btm n m) (hv : Bts n v) : Bts ((2 * n + 1) * v.length) (applyR m v) := fun x hx => by
  obtain ⟨r, hr, rfl⟩ := List.mem_map.mp hx
  exact bt_dot (hw r hr) (hm r hr) hv
theorem btm_trans {n w : Nat} {m : List (List Rat)} (hw : Wid w m) (hm : Btm n m) : Btm n (transR m w) := fun r hr x hx => by
  obtain ⟨j, hj, rfl⟩ := List.mem_map.mp hr
  obtain ⟨row, hrow, rfl⟩ := List.mem_map.mp hx
  have := (List.mem_range'_1.mp hj).2
  exact hm row hrow _ (gtR_mem (by rw [hw row hrow]; omega)).1
theorem btm_prod {n w : Nat} {a b : List (List Rat)} (ha : Wid b.length a) (hb : Wid w b) (h1 : Btm n a) (h2 : Btm n b) : Btm ((2 * n + 1) * b.length) (prodR a b w) := fun r hr => by
  obtain ⟨x, hx, rfl⟩ := List.mem_map.mp hr
  have l := ha x hx
  have := bts_apply (m := transR b w) (v := x) (by rw [l]; exact trans_wid' b w) (btm_trans hb h2) (h1 x hx)
  rw [l] at this
  exact this
theorem Btm.mono {n k : Nat} {m : List (List Rat)} (h : Btm n m) (hk : n ≤ k) : Btm k m := fun r hr => (h r hr).mono hk
theorem dec_cons {α : Type} [DecidableEq α] (x y : α) (xs ys : List α) : decide (x :: xs = y :: ys) = (decide (x = y) && decide (xs = ys)) := by
  rw [Bool.eq_iff_iff]; simp
/-- == of rows, of matrices: the answer -/
theorem ansTs_list {α : Type} [DecidableEq α] {f : Ans} (g : α → D) (hf : ∀ x y, f (g x) (g y) = some (decide (x = y))) : ∀ xs ys : List α, ∃ rs, ansTs f (xs.map g) (ys.map g) = some rs ∧ (rs.all id && (xs.map g).length == (ys.map g).length) = decide (xs = ys)
  | [], [] => ⟨[], rfl, rfl⟩
  | [], y :: ys => ⟨[], rfl, by simp⟩
  | x :: xs, [] => ⟨[], rfl, by simp⟩
  | x :: xs, y :: ys => by
    obtain ⟨rs, e, h⟩ := ansTs_list g hf xs ys
    refine ⟨decide (x = y) :: rs, ?_, ?_⟩
    · show ((f (g x) (g y)).bind fun r => (ansTs f (xs.map g) (ys.map g)).map fun rs => r :: rs) = _
      rw [hf, e]; rfl
    · rw [dec_cons, ← h, List.all_cons, List.map_cons, List.map_cons, List.length_cons, List.length_cons]
      have : ((xs.map g).length + 1 == (ys.map g).length + 1) = ((xs.map g).length == (ys.map g).length) := by rw [Bool.eq_iff_iff]; simp
      rw [this, Bool.and_assoc]; rfl
theorem ans_row (xs ys : List Rat) : ansT ansR (vecD xs) (vecD ys) = some (decide (xs = ys)) := by
  obtain ⟨rs, e, h⟩ := ansTs_list (f := ansR) D.rat (fun x y => rfl) xs ys
  show (ansTs ansR (xs.map D.rat) (ys.map D.rat)).map _ = _
  rw [e, ← h]; rfl
theorem ans_mat (a b : List (List Rat)) : ansT ansRow (matD a) (matD b) = some (decide (a = b)) := by
  obtain ⟨rs, e, h⟩ := ansTs_list (f := ansRow) vecD (fun x y => ans_row x y) a b
  show (ansTs ansRow (a.map vecD) (b.map vecD)).map _ = _
  rw [e, ← h]; rfl
def symB (m : List (List Rat)) : Bool := (m.all fun r => decide (r.length = m.length)) && decide (m = transR m m.length)
theorem rows_gt {g : List Rat → D} {m : List (List Rat)} {k : Nat} (h : k < m.length) : rowR m k ∈ m ∧ atI (m.map g) (k : Int) = some (g (rowR m k)) := by
  refine ⟨rowR_mem h, atI_nn (by omega) ?_⟩
  show (m.map g)[k]? = _
  unfold rowR
  rw [List.getElem?_map, List.getElem?_eq_getElem h]; rfl
theorem prs_gtR {xs : List Rat} {k : Nat} (h : k < xs.length) : gtR xs k ∈ xs ∧ atI (prs xs) (k : Int) = some (pairD (gtR xs k)) := prs_gt h
/-- a comprehension over a range that makes lists for changing -/
theorem lc_rngR {j N : Nat} {te : DE} {δ : DS0} {Q : List D → Mem → Prop} (f : Nat → List D) (h : ∀ (k : Nat) M (K : DK), k < N → (∀ p, M p = none → K (.ref p) (mput M p (.lst (f k)))) → te (δ.set j (some (.int (k : Int)))) M K) :
    ∀ (n a : Nat) (ps : List Addr) M, a + n ≤ N → ps.length + n ≤ sizeLine →
      (∀ qs M', (∀ q, q ∈ qs → M q = none) → qs.length = n → (∀ (i i2 : Nat) q, qs[i]? = some q → qs[i2]? = some q → i = i2) → (∀ (i : Nat) q, qs[i]? = some q → M' q = some (.lst (f (a + i)))) → (∀ x, x ∉ qs → M' x = M x) → Q ((ps ++ qs).map D.ref) M') →
      dLcL always (gNm j) dYes te δ ((List.range' a n).map fun (k : Nat) => D.int (k : Int)) (ps.map D.ref) M Q
  | 0, a, ps, M, _, _, q => ⟨trivial, by
    have := q [] M (fun q hq => (nomatch hq)) rfl (fun i i2 q hq => by simp at hq) (fun i q hq => by simp at hq) (fun x _ => rfl)
    rwa [List.append_nil] at this⟩
  | n + 1, a, ps, M, hN, hl, q => by
    refine ⟨trivial, by rw [List.length_map]; omega, ?_⟩
    refine ite_t (B := dLcL always (gNm j) dYes te δ ((List.range' (a + 1) n).map fun (k : Nat) => D.int (k : Int)) (ps.map D.ref) M Q) (h a M _ (by omega) fun p hp => ?_)
    have e : ps.map D.ref ++ [D.ref p] = (ps ++ [p]).map D.ref := by rw [List.map_append]; rfl
    rw [e]
    refine lc_rngR f h n (a + 1) (ps ++ [p]) _ (by omega) (by rw [List.length_append, List.length_singleton]; omega) fun qs M' h1 h2 h3 h4 h5 => ?_
    rw [List.append_assoc]
    have pn : p ∉ qs := fun m => by have := h1 p m; rw [mput_same] at this; cases this
    refine q (p :: qs) M' (fun x hx => ?_) (by rw [List.length_cons, h2]) (fun i i2 x hi hi2 => ?_) (fun i x hi => ?_) (fun x hx => ?_)
    · rcases List.mem_cons.mp hx with rfl | hx
      · exact hp
      · have := h1 x hx
        rwa [mput_ne (fun z : x = p => pn (z ▸ hx))] at this
    · cases i with
      | zero =>
        cases i2 with
        | zero => rfl
        | succ i2 => simp at hi hi2; subst hi; exact absurd (List.mem_of_getElem? hi2) pn
      | succ i =>
        cases i2 with
        | zero => simp at hi hi2; subst hi2; exact absurd (List.mem_of_getElem? hi) pn
        | succ i2 => rw [h3 i i2 x (by simpa using hi) (by simpa using hi2)]
    · cases i with
      | zero =>
        simp at hi; subst hi
        rw [h5 p pn, mput_same]; rfl
      | succ i => rw [h4 i x (by simpa using hi), show a + 1 + i = a + (i + 1) by omega]
    · rw [h5 x (fun m => hx (List.mem_cons_of_mem _ m)), mput_ne fun z : x = p => hx (z ▸ List.mem_cons_self)]
/-- a square matrix by its entries -/
def rowB (n : Nat) (f : Nat → Rat) : List Rat := (List.range' 0 n).map f
def bldR (n : Nat) (f : Nat → Nat → Rat) : List (List Rat) := (List.range' 0 n).map fun k => rowB n (f k)
theorem rowB_len (n : Nat) (f : Nat → Rat) : (rowB n f).length = n := by unfold rowB; rw [List.length_map, List.length_range']
theorem bld_len (n : Nat) (f : Nat → Nat → Rat) : (bldR n f).length = n := by unfold bldR; rw [List.length_map, List.length_range']
theorem bld_wid (n : Nat) (f : Nat → Nat → Rat) : Wid n (bldR n f) := fun r hr => by
  obtain ⟨k, _, rfl⟩ := List.mem_map.mp hr
  exact rowB_len ..
theorem gtR_rowB {n k : Nat} {f : Nat → Rat} (h : k < n) : gtR (rowB n f) k = f k := by
  unfold gtR rowB; rw [List.getElem?_map, List.getElem?_range' h]; simp
theorem row_bld {n k : Nat} {f : Nat → Nat → Rat} (h : k < n) : rowR (bldR n f) k = rowB n (f k) := by
  unfold rowR bldR; rw [List.getElem?_map, List.getElem?_range' h]; simp
theorem ent_bld {n i j : Nat} {f : Nat → Nat → Rat} (hi : i < n) (hj : j < n) : ent (bldR n f) i j = f i j := by
  unfold ent; rw [row_bld hi, gtR_rowB hj]
theorem btm_bld {n z : Nat} {f : Nat → Nat → Rat} (h : ∀ i j, i < n → j < n → Bt z (f i j)) : Btm z (bldR n f) := fun r hr x hx => by
  obtain ⟨k, hk, rfl⟩ := List.mem_map.mp hr
  obtain ⟨l, hl2, rfl⟩ := List.mem_map.mp hx
  have := (List.mem_range'_1.mp hk).2
  have := (List.mem_range'_1.mp hl2).2
  exact h k l (by omega) (by omega)
theorem sym_yes {n : Nat} {f : Nat → Nat → Rat} (h : ∀ i j, i < n → j < n → f i j = f j i) : symB (bldR n f) = true := by
  unfold symB
  rw [bld_len]
  have e : bldR n f = transR (bldR n f) n := mat_ext (w := n) (by rw [bld_len, trans_len']) (bld_wid n f) (by have := trans_wid' (bldR n f) n; rw [bld_len] at this; exact this) fun i j hi hj => by
    rw [trans_len'] at hi
    rw [ent_trans hi (by rw [bld_len]; exact hj), ent_bld hi hj, ent_bld hj hi, h i j hi hj]
  rw [decide_eq_true e, Bool.and_true, List.all_eq_true]
  exact fun r hr => decide_eq_true (bld_wid n f r hr)
theorem sym_no {n i j : Nat} {f : Nat → Nat → Rat} (hi : i < n) (hj : j < n) (h : f i j ≠ f j i) : symB (bldR n f) = false := by
  unfold symB
  rw [bld_len]
  have e : bldR n f ≠ transR (bldR n f) n := fun e => h (by
    have := congrArg (fun m => ent m i j) e
    rw [ent_trans hi (by rw [bld_len]; exact hj), ent_bld hi hj, ent_bld hj hi] at this
    exact this)
  rw [decide_eq_false e, Bool.and_false]
def fM (M : Mem) (p : Addr) : List D := match M p with
  | some (.lst xs) => xs
  | _ => []
/-- over a range, the memory as it is -/
theorem lc_rngM {j N : Nat} {te : DE} {δ : DS0} {M : Mem} {Q : List D → Mem → Prop} (f : Nat → D) (h : ∀ (k : Nat) (K : DK), k < N → K (f k) M → te (δ.set j (some (.int (k : Int)))) M K) :
    ∀ (n a : Nat) (acc : List D), a + n ≤ N → acc.length + n ≤ sizeLine → Q (acc ++ (List.range' a n).map f) M → dLcL always (gNm j) dYes te δ ((List.range' a n).map fun (k : Nat) => D.int (k : Int)) acc M Q
  | 0, a, acc, _, _, q => ⟨trivial, by simpa using q⟩
  | n + 1, a, acc, hN, hl, q => by
    refine ⟨trivial, by omega, ?_⟩
    refine ite_t (B := dLcL always (gNm j) dYes te δ ((List.range' (a + 1) n).map fun (k : Nat) => D.int (k : Int)) acc M Q) (h a _ (by omega) (lc_rngM f h n (a + 1) _ (by omega) ?_ ?_))
    · rw [List.length_append, List.length_singleton]; omega
    · rw [List.append_assoc]; exact q
theorem gtR_some {xs : List Rat} {k : Nat} (h : k < xs.length) : xs[k]? = some (gtR xs k) := by
  unfold gtR; rw [List.getElem?_eq_getElem h]; rfl
def bld2 (h w : Nat) (f : Nat → Nat → Rat) : List (List Rat) := (List.range' 0 h).map fun k => rowB w (f k)
theorem bld2_eq {h w : Nat} {m : List (List Rat)} {f : Nat → Nat → Rat} (h1 : m.length = h) (h2 : Wid w m) (e : ∀ i j, i < h → j < w → ent m i j = f i j) : bld2 h w f = m := by
  have lb : (bld2 h w f).length = h := by unfold bld2; rw [List.length_map, List.length_range']
  refine mat_ext (w := w) (by rw [lb, h1]) (fun r hr => ?_) h2 fun i j hi hj => ?_
  · obtain ⟨k, _, rfl⟩ := List.mem_map.mp hr
    exact rowB_len ..
  · rw [e i j (by omega) hj]
    unfold ent
    have : rowR (bld2 h w f) i = rowB w (f i) := by
      unfold rowR bld2; rw [List.getElem?_map, List.getElem?_range' (by omega)]; simp
    rw [this, gtR_rowB hj]
theorem sum_len {a b : List (List Rat)} (h : a.length = b.length) : (sumM a b).length = a.length := by unfold sumM; rw [List.length_zipWith]; omega
theorem sum_row {a b : List (List Rat)} {i : Nat} (h1 : i < a.length) (h2 : i < b.length) : rowR (sumM a b) i = mapR2 (fun x y => x + y) (rowR a i) (rowR b i) := by
  unfold rowR sumM
  rw [List.getElem?_zipWith, List.getElem?_eq_getElem h1, List.getElem?_eq_getElem h2]; rfl
theorem sum_ent {a b : List (List Rat)} {w i j : Nat} (ha : Wid w a) (hb : Wid w b) (h1 : i < a.length) (h2 : i < b.length) (hj : j < w) : ent (sumM a b) i j = ent a i j + ent b i j := by
  unfold ent
  rw [sum_row h1 h2]
  have l1 := ha _ (rowR_mem h1)
  have l2 := hb _ (rowR_mem h2)
  have := mapR2_get (f := fun x y => x + y) (gtR_some (xs := rowR a i) (k := j) (by omega)) (gtR_some (xs := rowR b i) (k := j) (by omega))
  show gtR (mapR2 (fun x y => x + y) _ _) j = _
  unfold gtR at this ⊢
  rw [this]; rfl
theorem sum_wid {a b : List (List Rat)} {w : Nat} (ha : Wid w a) (hb : Wid w b) (h : a.length = b.length) : Wid w (sumM a b) := fun r hr => by
  obtain ⟨i, hi, rfl⟩ := List.getElem_of_mem hr
  rw [sum_len h] at hi
  have e : (sumM a b)[i]'(by rw [sum_len h]; exact hi) = rowR (sumM a b) i := by
    unfold rowR; rw [List.getElem?_eq_getElem (by rw [sum_len h]; exact hi)]; rfl
  rw [e, sum_row hi (by omega), mapR2_len _ _ (by rw [ha _ (rowR_mem hi), hb _ (rowR_mem (by omega))]), ha _ (rowR_mem hi)]
theorem gtR_mapQ {xs : List Rat} {f : Rat → Rat} {k : Nat} (h : k < xs.length) : gtR (xs.map f) k = f (gtR xs k) := by
  unfold gtR; rw [List.getElem?_map, List.getElem?_eq_getElem h]; rfl
theorem outer_wid (a b : List Rat) : Wid b.length (outerR a b) := fun r hr => by
  obtain ⟨x, _, rfl⟩ := List.mem_map.mp hr
  exact List.length_map ..
theorem outer_len (a b : List Rat) : (outerR a b).length = a.length := List.length_map ..
theorem outer_row {a b : List Rat} {i : Nat} (h : i < a.length) : rowR (outerR a b) i = b.map (gtR a i * ·) := by
  unfold rowR outerR; rw [List.getElem?_map, gtR_some h]; rfl
theorem outer_ent {a b : List Rat} {i j : Nat} (h : i < a.length) (h2 : j < b.length) : ent (outerR a b) i j = gtR a i * gtR b j := by
  unfold ent; rw [outer_row h, gtR_mapQ h2]
theorem scale_ent {m : List (List Rat)} {q : Rat} {w i j : Nat} (hm : Wid w m) (h : i < m.length) (h2 : j < w) : ent (scaleM q m) i j = q * ent m i j := by
  unfold ent scaleM
  rw [row_map h, gtR_mapQ (by rw [hm _ (rowR_mem h)]; exact h2)]
theorem scale_wid {m : List (List Rat)} {q : Rat} {w : Nat} (hm : Wid w m) : Wid w (scaleM q m) := fun r hr => by
  obtain ⟨r', hr', rfl⟩ := List.mem_map.mp hr
  rw [List.length_map]; exact hm r' hr'
theorem scale_len (q : Rat) (m : List (List Rat)) : (scaleM q m).length = m.length := List.length_map ..
/-! sizes by common denominators -/
def CD (D N : Nat) (q : Rat) : Prop := ∃ i : Int, q * (D : Rat) = (i : Rat) ∧ i.natAbs ≤ N
theorem CD.mono {D N N' : Nat} {q : Rat} (h : CD D N q) (k : N ≤ N') : CD D N' q := let ⟨i, e, l⟩ := h; ⟨i, e, Nat.le_trans l k⟩
theorem CD.mulD {D N : Nat} {q : Rat} (E : Nat) (h : CD D N q) : CD (D * E) (N * E) q := by
  obtain ⟨i, e, l⟩ := h
  refine ⟨i * E, ?_, by rw [Int.natAbs_mul, Int.natAbs_natCast]; exact Nat.mul_le_mul_right _ l⟩
  rw [Rat.intCast_mul, ← e, Rat.natCast_mul]
  have : ((E : Int) : Rat) = (E : Rat) := rfl
  rw [this]; grind
theorem CD.add {D N N' : Nat} {p q : Rat} (h : CD D N p) (h' : CD D N' q) : CD D (N + N') (p + q) := by
  obtain ⟨i, e, l⟩ := h
  obtain ⟨j, e', l'⟩ := h'
  refine ⟨i + j, ?_, Nat.le_trans (Int.natAbs_add_le _ _) (Nat.add_le_add l l')⟩
  rw [Rat.intCast_add, ← e, ← e']; grind
theorem CD.neg {D N : Nat} {p : Rat} (h : CD D N p) : CD D N (-p) := by
  obtain ⟨i, e, l⟩ := h
  refine ⟨-i, ?_, by rw [Int.natAbs_neg]; exact l⟩
  rw [Rat.intCast_neg, ← e]; grind
theorem CD.sub {D N N' : Nat} {p q : Rat} (h : CD D N p) (h' : CD D N' q) : CD D (N + N') (p - q) := by
  have := h.add h'.neg
  rw [Rat.sub_eq_add_neg]; exact this
theorem CD.mul {D E N N' : Nat} {p q : Rat} (h : CD D N p) (h' : CD E N' q) : CD (D * E) (N * N') (p * q) := by
  obtain ⟨i, e, l⟩ := h
  obtain ⟨j, e', l'⟩ := h'
  refine ⟨i * j, ?_, by rw [Int.natAbs_mul]; exact Nat.mul_le_mul l l'⟩
  rw [Rat.intCast_mul, ← e, ← e', Rat.natCast_mul]; grind
theorem cd_int {N : Nat} {i : Int} (h : i.natAbs ≤ N) : CD 1 N (i : Rat) := ⟨i, by grind, h⟩
theorem cd_zero {D N : Nat} : CD D N 0 := ⟨0, by grind, Nat.zero_le _⟩
theorem cd_div {a : Int} {b N : Nat} (hb : 0 < b) (h : a.natAbs ≤ N) : CD b N (Rat.divInt a b) := by
  refine ⟨a, ?_, h⟩
  rw [Rat.divInt_eq_div]
  have e : ((b : Int) : Rat) = (b : Rat) := rfl
  rw [e]
  have : (b : Rat) ≠ 0 := fun z => by
    have : ((b : Nat) : Rat) = ((0 : Nat) : Rat) := z
    have := Rat.natCast_inj.mp this
    omega
  grind
theorem CD.eq {D N : Nat} {q : Rat} (h : CD D N q) (hD : 0 < D) : ∃ i : Int, q = Rat.divInt i D ∧ i.natAbs ≤ N := by
  obtain ⟨i, e, l⟩ := h
  refine ⟨i, ?_, l⟩
  rw [Rat.divInt_eq_div]
  have e2 : ((D : Int) : Rat) = (D : Rat) := rfl
  rw [e2]
  have : (D : Rat) ≠ 0 := fun z => by
    have : ((D : Nat) : Rat) = ((0 : Nat) : Rat) := z
    have := Rat.natCast_inj.mp this
    omega
  grind
theorem CD.bt {D N n : Nat} {q : Rat} (h : CD D N q) (hD : 0 < D) (h1 : D ≤ 2 ^ n) (h2 : N ≤ 2 ^ n) : Bt n q := by
  obtain ⟨i, rfl, l⟩ := h.eq hD
  exact bt_div (Nat.le_trans l h2) (by rw [Int.natAbs_natCast]; exact h1)
/-- entries with one denominator: values at most 2^(19 h) -/
def DenOk (h D : Nat) : Prop := 0 < D ∧ 27720 ∣ D ∧ D ≤ 27720 * 12 ^ (h - 1)
def Cds (D N : Nat) (m : List (List Rat)) : Prop := ∀ r, r ∈ m → ∀ x, x ∈ r → CD D N x
def MatOk (h w : Nat) (m : List (List Rat)) : Prop := m.length = h ∧ Wid w m ∧ ∃ D, DenOk h D ∧ Cds D (2 ^ (19 * h) * D) m
theorem DenOk.le {h D : Nat} (x : DenOk h D) : D ≤ 2 ^ (15 + 4 * (h - 1)) := by
  refine Nat.le_trans x.2.2 ?_
  rw [Nat.pow_add, Nat.pow_mul]
  exact Nat.mul_le_mul (by decide) (Nat.pow_le_pow_left (by decide) _)
theorem cds_btm {h D : Nat} {m : List (List Rat)} (x : DenOk h D) (c : Cds D (2 ^ (19 * h) * D) m) : Btm (19 * h + (15 + 4 * (h - 1))) m := fun r hr y hy =>
  (c r hr y hy).bt x.1 (Nat.le_trans x.le (Nat.pow_le_pow_right (by decide) (by omega))) (by rw [Nat.pow_add]; exact Nat.mul_le_mul_left _ x.le)
theorem MatOk.btm {h w : Nat} {m : List (List Rat)} (x : MatOk h w m) : Btm (19 * h + (15 + 4 * (h - 1))) m := by
  obtain ⟨_, _, D, d, c⟩ := x
  exact cds_btm d c
/-! the reduced form, step by step -/
def unitOf (r : List Rat) (c : Nat) : List Rat := r.map (1 / gtR r c * ·)
def elimR (u r : List Rat) (c : Nat) : List Rat := mapR2 (fun x y => x - y) r (u.map (gtR r c * ·))
def fstNZ (rs : List (List Rat)) (c s : Nat) : Option Nat := (List.range' s (rs.length - s)).find? fun k => !decide (ent rs k c = 0)
def clrR (rs : List (List Rat)) (k0 c : Nat) : List (List Rat) := (List.range' 0 rs.length).map fun k => if k = k0 then unitOf (rowR rs k0) c else elimR (unitOf (rowR rs k0) c) (rowR rs k) c
def swapR (rs : List (List Rat)) (i j : Nat) : List (List Rat) := (rs.set i (rowR rs j)).set j (rowR rs i)
def redL : List Nat → List (List Rat) → List Nat → List (List Rat) × List Nat
  | [], rs, ps => (rs, ps)
  | c :: cs, rs, ps => match fstNZ rs c ps.length with
    | none => redL cs rs ps
    | some f => redL cs (clrR (swapR rs ps.length f) ps.length c) (ps ++ [c])
def redA (m : List (List Rat)) (w : Nat) : List (List Rat) × List Nat := redL (List.range' 0 w) m []
def redM (m : List (List Rat)) (w : Nat) : List (List Rat) := (redA m w).1.take (redA m w).2.length
def pivM (m : List (List Rat)) (w : Nat) : List Nat := (redA m w).2
def natsD (ps : List Nat) : List D := ps.map fun (k : Nat) => D.int (k : Int)
theorem fst_some {rs : List (List Rat)} {c s f : Nat} (h : fstNZ rs c s = some f) : s ≤ f ∧ f < rs.length ∧ ent rs f c ≠ 0 := by
  unfold fstNZ at h
  have h1 := List.find?_some h
  have h2 := List.mem_range'_1.mp (List.mem_of_find?_eq_some h)
  refine ⟨by omega, by omega, fun e => ?_⟩
  rw [decide_eq_true e] at h1; cases h1
theorem swap_len (rs : List (List Rat)) (i j : Nat) : (swapR rs i j).length = rs.length := by unfold swapR; rw [List.length_set, List.length_set]
theorem swap_row {rs : List (List Rat)} {i j k : Nat} (hi : i < rs.length) (hj : j < rs.length) (hk : k < rs.length) : rowR (swapR rs i j) k = if k = j then rowR rs i else if k = i then rowR rs j else rowR rs k := by
  unfold swapR
  unfold rowR
  by_cases e : k = j
  · subst e
    rw [if_pos rfl, List.getElem?_set_self (by rw [List.length_set]; exact hk)]; rfl
  · rw [if_neg e, List.getElem?_set_ne (Ne.symm e)]
    by_cases e2 : k = i
    · subst e2
      rw [if_pos rfl, List.getElem?_set_self hk]; rfl
    · rw [if_neg e2, List.getElem?_set_ne (Ne.symm e2)]
theorem mem_row {m : List (List Rat)} {r : List Rat} (h : r ∈ m) : ∃ k, k < m.length ∧ rowR m k = r := by
  obtain ⟨i, hi, rfl⟩ := List.getElem_of_mem h
  exact ⟨i, hi, by unfold rowR; rw [List.getElem?_eq_getElem hi]; rfl⟩
theorem swap_mem {rs : List (List Rat)} {i j : Nat} {r : List Rat} (hi : i < rs.length) (hj : j < rs.length) (h : r ∈ swapR rs i j) : r ∈ rs := by
  obtain ⟨k, hk, rfl⟩ := mem_row h
  rw [swap_len] at hk
  rw [swap_row hi hj hk]
  split
  · exact rowR_mem hi
  · split
    · exact rowR_mem hj
    · exact rowR_mem hk
theorem unit_len (r : List Rat) (c : Nat) : (unitOf r c).length = r.length := List.length_map ..
theorem elim_len {u r : List Rat} {c : Nat} (h : u.length = r.length) : (elimR u r c).length = r.length := mapR2_len _ _ (by rw [List.length_map, h])
theorem clr_len (rs : List (List Rat)) (k0 c : Nat) : (clrR rs k0 c).length = rs.length := by unfold clrR; rw [List.length_map, List.length_range']
theorem clr_wid {rs : List (List Rat)} {w k0 c : Nat} (h : Wid w rs) (h0 : k0 < rs.length) : Wid w (clrR rs k0 c) := fun r hr => by
  obtain ⟨k, hk, rfl⟩ := List.mem_map.mp hr
  have hk2 := (List.mem_range'_1.mp hk).2
  have l0 := h _ (rowR_mem h0)
  have lk := h _ (rowR_mem (m := rs) (i := k) (by omega))
  show (if k = k0 then _ else _ : List Rat).length = w
  split
  · rw [unit_len, l0]
  · rw [elim_len (by rw [unit_len, l0, lk]), lk]
theorem swap_wid {rs : List (List Rat)} {w i j : Nat} (h : Wid w rs) (hi : i < rs.length) (hj : j < rs.length) : Wid w (swapR rs i j) := fun r hr => h r (swap_mem hi hj hr)
/-- sizes: one denominator for all -/
def SzM (n : Nat) (rs : List (List Rat)) : Prop := ∃ D, 0 < D ∧ D ≤ 2 ^ n ∧ Cds D (2 ^ n) rs
theorem SzM.btm {n : Nat} {rs : List (List Rat)} (h : SzM n rs) : Btm n rs := fun r hr x hx => by
  obtain ⟨D, h0, h1, h2⟩ := h
  exact (h2 r hr x hx).bt h0 h1 (Nat.le_refl _)
theorem SzM.sub {n : Nat} {rs rs2 : List (List Rat)} (h : SzM n rs) (s : ∀ r, r ∈ rs2 → r ∈ rs) : SzM n rs2 := by
  obtain ⟨D, h0, h1, h2⟩ := h
  exact ⟨D, h0, h1, fun r hr => h2 r (s r hr)⟩
/-- a row divided by one of its numbers -/
theorem unit_cd {r : List Rat} {c D N : Nat} (hD : 0 < D) (hc : c < r.length) (h : ∀ x, x ∈ r → CD D N x) (h0 : gtR r c ≠ 0) : ∃ P : Nat, 0 < P ∧ P ≤ N ∧ ∀ x, x ∈ unitOf r c → CD P N x := by
  obtain ⟨ip, e, l⟩ := h _ (gtR_mem hc).1
  have hip : ip ≠ 0 := fun z => by
    subst z
    obtain ⟨j, e3, _⟩ : ∃ j : Int, gtR r c * (D : Rat) = 0 ∧ j = 0 := ⟨0, by rw [e]; rfl, rfl⟩
    rcases Rat.mul_eq_zero.mp e3 with h | h
    · exact h0 h
    · have h2 : ((D : Nat) : Rat) = ((0 : Nat) : Rat) := h
      have := Rat.natCast_inj.mp h2
      omega
  have hu : ∀ z, z ∈ unitOf r c → ∃ i : Int, z * (ip : Rat) = i ∧ i.natAbs ≤ N := fun z hz => by
    obtain ⟨x, hx, rfl⟩ := List.mem_map.mp hz
    obtain ⟨i, e2, l2⟩ := h x hx
    refine ⟨i, ?_, l2⟩
    rw [← e, ← e2]
    generalize gtR r c = y at h0
    grind
  refine ⟨ip.natAbs, by omega, l, fun x hx => ?_⟩
  obtain ⟨i, e2, l2⟩ := hu x hx
  rcases Int.natAbs_eq ip with h1 | h1
  · refine ⟨i, ?_, l2⟩
    rw [← e2]
    have : ((ip.natAbs : Nat) : Rat) = ((ip.natAbs : Int) : Rat) := rfl
    rw [this, ← h1]
  · refine ⟨-i, ?_, by rw [Int.natAbs_neg]; exact l2⟩
    rw [Rat.intCast_neg, ← e2]
    have : ((ip.natAbs : Nat) : Rat) = ((ip.natAbs : Int) : Rat) := rfl
    have h3 : (ip.natAbs : Int) = -ip := by omega
    rw [this, h3, Rat.intCast_neg]; grind
/-- one step: sizes -/
theorem clr_sz {rs : List (List Rat)} {n w k0 c : Nat} (hw : Wid w rs) (h0 : k0 < rs.length) (hc : c < w) (hz : ent rs k0 c ≠ 0) (h : SzM n rs) : SzM (2 * n + 1) (clrR rs k0 c) ∧ Bts (2 * n) (unitOf (rowR rs k0) c) ∧ ∀ r, r ∈ rs → Bts (2 * n) ((unitOf (rowR rs k0) c).map (gtR r c * ·)) := by
  obtain ⟨D, hD, hD2, hC⟩ := h
  have m0 := rowR_mem h0
  have l0 := hw _ m0
  obtain ⟨P, p0, p1, hu⟩ := unit_cd (r := rowR rs k0) (c := c) hD (by omega) (hC _ m0) hz
  have e2n : 2 ^ (2 * n) = 2 ^ n * 2 ^ n := by rw [Nat.two_mul, Nat.pow_add]
  have cu : ∀ x, x ∈ unitOf (rowR rs k0) c → CD (D * P) (2 ^ (2 * n)) x := fun x hx => by
    have := (hu x hx).mulD D
    rw [Nat.mul_comm P D] at this
    exact this.mono (by rw [e2n]; exact Nat.mul_le_mul_left _ hD2)
  have hDP : 0 < D * P := Nat.mul_pos hD p0
  have hDP2 : D * P ≤ 2 ^ (2 * n) := by rw [e2n]; exact Nat.mul_le_mul hD2 p1
  have cp : ∀ r, r ∈ rs → ∀ x, x ∈ unitOf (rowR rs k0) c → CD (D * P) (2 ^ (2 * n)) (gtR r c * x) := fun r hr x hx => by
    have := (hC r hr _ (gtR_mem (k := c) (by rw [hw r hr]; exact hc)).1).mul (hu x hx)
    rw [← e2n] at this; exact this
  refine ⟨⟨D * P, hDP, Nat.le_trans hDP2 (Nat.pow_le_pow_right (by decide) (by omega)), fun r hr x hx => ?_⟩, fun x hx => (cu x hx).bt hDP hDP2 (Nat.le_refl _), fun r hr x hx => by
    obtain ⟨y, hy, rfl⟩ := List.mem_map.mp hx
    exact (cp r hr y hy).bt hDP hDP2 (Nat.le_refl _)⟩
  obtain ⟨k, hk, rfl⟩ := List.mem_map.mp hr
  have hk2 := (List.mem_range'_1.mp hk).2
  have mk := rowR_mem (m := rs) (i := k) (by omega)
  by_cases e : k = k0
  · rw [if_pos e] at hx
    exact (cu x hx).mono (Nat.pow_le_pow_right (by decide) (by omega))
  · rw [if_neg e] at hx
    obtain ⟨j, hj, rfl⟩ := List.getElem_of_mem hx
    have lk := hw _ mk
    have lu : (unitOf (rowR rs k0) c).length = w := by rw [unit_len, l0]
    have hj2 : j < w := by rw [elim_len (by rw [lu, lk])] at hj; omega
    have g1 := gtR_some (xs := rowR rs k) (k := j) (by omega)
    have g2 := gtR_some (xs := (unitOf (rowR rs k0) c).map (gtR (rowR rs k) c * ·)) (k := j) (by rw [List.length_map, lu]; exact hj2)
    have g3 := mapR2_get (f := fun x y => x - y) g1 g2
    have e3 : (elimR (unitOf (rowR rs k0) c) (rowR rs k) c)[j] = gtR (rowR rs k) j - gtR ((unitOf (rowR rs k0) c).map (gtR (rowR rs k) c * ·)) j := by
      rw [List.getElem_eq_iff]; exact g3
    rw [e3]
    have m2 := (gtR_mem (xs := (unitOf (rowR rs k0) c).map (gtR (rowR rs k) c * ·)) (k := j) (by rw [List.length_map, lu]; exact hj2)).1
    obtain ⟨y, hy, ey⟩ := List.mem_map.mp m2
    rw [← ey]
    have c1 := ((hC _ mk _ (gtR_mem (k := j) (by omega)).1).mulD P).mono (show 2 ^ n * P ≤ 2 ^ (2 * n) by rw [e2n]; exact Nat.mul_le_mul_left _ p1)
    refine (c1.sub (cp _ mk y hy)).mono ?_
    rw [Nat.pow_succ]; omega
theorem rngD_from {s l : Nat} (h : s ≤ l) : rngD (s : Int) (l : Int) = (List.range' s (l - s)).map fun (k : Nat) => D.int (k : Int) := by
  unfold rngD
  have e : ((l : Int) - s).toNat = l - s := by omega
  rw [e, List.range'_eq_map_range (s := s), List.map_map]
  exact List.map_congr_left fun k _ => by
    show D.int ((s : Int) + (k : Int)) = D.int ((s + k : Nat) : Int)
    congr 1
theorem mat_at' {g : List Rat → D} {rs : List (List Rat)} {k : Nat} (h : k < rs.length) : atI (rs.map g) (k : Int) = some (g (rowR rs k)) := (rows_gt h).2
theorem ne0_flag {q : Rat} {t : Bool} (ht : t = true ↔ D.int q.num ≠ D.int 0) : t = !decide (q = 0) := by
  by_cases e : q = 0
  · rw [decide_eq_true e]
    cases t with
    | true => exact absurd (by rw [e]; rfl) (ht.mp rfl)
    | false => rfl
  · rw [decide_eq_false e]
    exact ht.mpr fun z => e (q_num0.mp (by injection z))
theorem eq0_flag {q : Rat} {t : Bool} (ht : t = true ↔ D.int q.num = D.int 0) : t = decide (q = 0) := by
  by_cases e : q = 0
  · rw [decide_eq_true e]; exact ht.mpr (by rw [e]; rfl)
  · rw [decide_eq_false e]
    cases t with
    | true => exact absurd (q_num0.mp (by have := ht.mp rfl; injection this)) e
    | false => rfl
theorem cut_take {xs : List D} {k : Nat} (h : k ≤ xs.length) : cutD xs none (some (k : Int)) = xs.take k := by
  unfold cutD
  rw [HT.sIx_none, HT.sIx_nat, List.drop_zero, Nat.sub_zero, Nat.min_eq_left h]
theorem swap_lead {rs : List (List Rat)} {i j : Nat} (hi : i < rs.length) (hj : j < rs.length) : rowR (swapR rs i j) i = rowR rs j := by
  rw [swap_row hi hj hi]
  by_cases e : i = j
  · rw [if_pos e, e]
  · rw [if_neg e, if_pos rfl]
theorem red_none {c : Nat} {cs : List Nat} {rs : List (List Rat)} {ps : List Nat} (h : fstNZ rs c ps.length = none) : redL (c :: cs) rs ps = redL cs rs ps := by
  show (match fstNZ rs c ps.length with | none => _ | some f => _) = _
  rw [h]
theorem red_some {c f : Nat} {cs : List Nat} {rs : List (List Rat)} {ps : List Nat} (h : fstNZ rs c ps.length = some f) : redL (c :: cs) rs ps = redL cs (clrR (swapR rs ps.length f) ps.length c) (ps ++ [c]) := by
  show (match fstNZ rs c ps.length with | none => _ | some f => _) = _
  rw [h]
theorem ixN_nat {n k : Nat} (h : k < n) : ixN n (k : Int) = some k := by
  unfold ixN; rw [if_pos (by omega), if_pos (by omega)]; simp
theorem nats_app (ps : List Nat) (c : Nat) : natsD ps ++ [.int (c : Int)] = natsD (ps ++ [c]) := by unfold natsD; rw [List.map_append]; rfl
theorem nats_len (ps : List Nat) : (natsD ps).length = ps.length := List.length_map ..
theorem set_vec (rs : List (List Rat)) (i : Nat) (r : List Rat) (g : List Rat → D) : (rs.map g).set i (g r) = (rs.set i r).map g := by rw [List.map_set]
/-- the room a matrix has for its steps -/
def Fits (n l : Nat) : Prop := (n + 1) * 2 ^ l ≤ 16000001
theorem Fits.two {n l : Nat} (h : Fits n (l + 1)) : 2 * n ≤ 16000000 := by
  have : 2 ≤ 2 ^ (l + 1) := by rw [Nat.pow_succ]; have := Nat.one_le_two_pow (n := l); omega
  have h2 := Nat.le_trans (Nat.mul_le_mul_left (n + 1) this) h
  omega
theorem Fits.next {n l : Nat} (h : Fits n (l + 1)) : Fits (2 * n + 1) l := by
  unfold Fits at h ⊢
  rw [Nat.pow_succ, Nat.mul_comm (2 ^ l) 2, ← Nat.mul_assoc] at h
  rw [show 2 * n + 1 + 1 = (n + 1) * 2 by omega]; exact h
theorem red_keeps {w : Nat} : ∀ (cs : List Nat) (rs : List (List Rat)) (ps : List Nat), Wid w rs → ps.length ≤ rs.length → (redL cs rs ps).1.length = rs.length ∧ Wid w (redL cs rs ps).1 ∧ (redL cs rs ps).2.length ≤ rs.length
  | [], rs, ps, hW, hp => ⟨rfl, hW, hp⟩
  | c :: cs, rs, ps, hW, hp => by
    cases hf : fstNZ rs c ps.length with
    | none => rw [red_none hf]; exact red_keeps cs rs ps hW hp
    | some f =>
      obtain ⟨f1, f2, f3⟩ := fst_some hf
      rw [red_some hf]
      have hat : ps.length < rs.length := by omega
      have lsw := swap_len rs ps.length f
      have lcl := clr_len (swapR rs ps.length f) ps.length c
      obtain ⟨h1, h2, h3⟩ := red_keeps cs (clrR (swapR rs ps.length f) ps.length c) (ps ++ [c]) (clr_wid (swap_wid hW hat f2) (by omega)) (by rw [List.length_append, List.length_singleton]; omega)
      exact ⟨by omega, h2, by omega⟩
theorem redM_len {m : List (List Rat)} {w : Nat} (hW : Wid w m) (h1 : m.length ≤ 1000000) (h2 : w ≤ 1000000) : Len (redM m w) := by
  obtain ⟨l1, l2, l3⟩ := red_keeps (List.range' 0 w) m [] hW (Nat.zero_le _)
  refine ⟨?_, fun r hr => ?_⟩
  · show ((redL _ m []).1.take _).length ≤ _
    rw [List.length_take]; omega
  · have : r ∈ (redL (List.range' 0 w) m []).1 := List.mem_of_mem_take hr
    rw [l2 r this]; exact h2
/-- one step whose numbers have room -/
structure StepOk (S : List (List Rat)) (k0 c : Nat) : Prop where
  sm : ∀ r, r ∈ S → ∀ x, x ∈ r → Sm x
  inv : Sm (1 / gtR (rowR S k0) c)
  unit : ∀ x, x ∈ unitOf (rowR S k0) c → Sm x
  prod : ∀ r, r ∈ S → ∀ x, x ∈ (unitOf (rowR S k0) c).map (gtR r c * ·) → Sm x
def RedOk : List Nat → List (List Rat) → List Nat → Prop
  | [], _, _ => True
  | c :: cs, rs, ps => match fstNZ rs c ps.length with
    | none => RedOk cs rs ps
    | some f => StepOk (swapR rs ps.length f) ps.length c ∧ RedOk cs (clrR (swapR rs ps.length f) ps.length c) (ps ++ [c])
theorem RedOk.none {c : Nat} {cs : List Nat} {rs : List (List Rat)} {ps : List Nat} (h : RedOk (c :: cs) rs ps) (hf : fstNZ rs c ps.length = Option.none) : RedOk cs rs ps := by
  have h2 : (match fstNZ rs c ps.length with | Option.none => RedOk cs rs ps | some f => StepOk (swapR rs ps.length f) ps.length c ∧ RedOk cs (clrR (swapR rs ps.length f) ps.length c) (ps ++ [c])) := h
  rw [hf] at h2; exact h2
theorem RedOk.some {c f : Nat} {cs : List Nat} {rs : List (List Rat)} {ps : List Nat} (h : RedOk (c :: cs) rs ps) (hf : fstNZ rs c ps.length = Option.some f) : StepOk (swapR rs ps.length f) ps.length c ∧ RedOk cs (clrR (swapR rs ps.length f) ps.length c) (ps ++ [c]) := by
  have h2 : (match fstNZ rs c ps.length with | Option.none => RedOk cs rs ps | Option.some f => StepOk (swapR rs ps.length f) ps.length c ∧ RedOk cs (clrR (swapR rs ps.length f) ps.length c) (ps ++ [c])) := h
  rw [hf] at h2; exact h2
theorem redok_none {c : Nat} {cs : List Nat} {rs : List (List Rat)} {ps : List Nat} (hf : fstNZ rs c ps.length = none) (h : RedOk cs rs ps) : RedOk (c :: cs) rs ps := by
  show (match fstNZ rs c ps.length with | Option.none => RedOk cs rs ps | some f => StepOk (swapR rs ps.length f) ps.length c ∧ RedOk cs (clrR (swapR rs ps.length f) ps.length c) (ps ++ [c]))
  rw [hf]; exact h
theorem redok_some {c f : Nat} {cs : List Nat} {rs : List (List Rat)} {ps : List Nat} (hf : fstNZ rs c ps.length = some f) (h1 : StepOk (swapR rs ps.length f) ps.length c) (h2 : RedOk cs (clrR (swapR rs ps.length f) ps.length c) (ps ++ [c])) : RedOk (c :: cs) rs ps := by
  show (match fstNZ rs c ps.length with | Option.none => RedOk cs rs ps | some f => StepOk (swapR rs ps.length f) ps.length c ∧ RedOk cs (clrR (swapR rs ps.length f) ps.length c) (ps ++ [c]))
  rw [hf]; exact ⟨h1, h2⟩
theorem stepOk_sz {S : List (List Rat)} {n w k0 c : Nat} (hw : Wid w S) (h0 : k0 < S.length) (hc : c < w) (hz : ent S k0 c ≠ 0) (h : SzM n S) (hn : 2 * n ≤ 16000000) : StepOk S k0 c := by
  obtain ⟨_, bu, bp⟩ := clr_sz hw h0 hc hz h
  have hb := h.btm
  have m0 := rowR_mem h0
  have b1 : Bt n (1 / gtR (rowR S k0) c) := by
    have := bt_over (n := 0) (m := n) (bt_int (n := 0) (i := 1) (by decide)) (hb _ m0 _ (gtR_mem (k := c) (by rw [hw _ m0]; exact hc)).1)
    rw [show ((1 : Int) : Rat) = 1 by grind, Nat.zero_add] at this; exact this
  exact ⟨fun r hr x hx => (hb r hr x hx).smW (by omega), b1.smW (by omega), fun x hx => (bu x hx).smW hn, fun r hr x hx => (bp r hr x hx).smW hn⟩
theorem redok_sz {w : Nat} : ∀ (cs : List Nat) (rs : List (List Rat)) (ps : List Nat) (n : Nat), (∀ c, c ∈ cs → c < w) → Wid w rs → ps.length ≤ rs.length → SzM n rs → Fits n (rs.length - ps.length) → RedOk cs rs ps
  | [], _, _, _, _, _, _, _, _ => trivial
  | c :: cs, rs, ps, n, hcs, hW, hp, hS, hF => by
    have hc := hcs c List.mem_cons_self
    have hcs2 : ∀ c, c ∈ cs → c < w := fun x hx => hcs x (List.mem_cons_of_mem _ hx)
    cases hf : fstNZ rs c ps.length with
    | none => exact redok_none hf (redok_sz cs rs ps n hcs2 hW hp hS hF)
    | some f =>
      obtain ⟨f1, f2, f3⟩ := fst_some hf
      have hat : ps.length < rs.length := by omega
      obtain ⟨l, hl2⟩ : ∃ l, rs.length - ps.length = l + 1 := ⟨rs.length - ps.length - 1, by omega⟩
      rw [hl2] at hF
      have hS2 : SzM n (swapR rs ps.length f) := hS.sub fun r hr => swap_mem hat f2 hr
      have hW2 := swap_wid hW hat f2
      have lsw := swap_len rs ps.length f
      have lcl := clr_len (swapR rs ps.length f) ps.length c
      have hz : ent (swapR rs ps.length f) ps.length c ≠ 0 := by unfold ent; rw [swap_lead hat f2]; exact f3
      obtain ⟨k1, _, _⟩ := clr_sz hW2 (by omega) hc hz hS2
      exact redok_some hf (stepOk_sz hW2 (by omega) hc hz hS2 hF.two) (redok_sz cs _ _ (2 * n + 1) hcs2 (clr_wid hW2 (by omega)) (by rw [List.length_append, List.length_singleton]; omega) k1 (by rw [List.length_append, List.length_singleton, lcl, lsw, show rs.length - (ps.length + 1) = l by omega]; exact hF.next))
theorem redok_of {w n : Nat} {m : List (List Rat)} (hW : Wid w m) (hS : SzM n m) (hF : Fits n m.length) : RedOk (List.range' 0 w) m [] :=
  redok_sz _ m [] n (fun c hc => by have := (List.mem_range'_1.mp hc).2; omega) hW (Nat.zero_le _) hS hF
theorem mem_swap {rs : List (List Rat)} {i j : Nat} {r : List Rat} (hi : i < rs.length) (hj : j < rs.length) (h : r ∈ rs) : r ∈ swapR rs i j := by
  obtain ⟨k, hk, rfl⟩ := mem_row h
  have row : ∀ k2, k2 < rs.length → rowR (swapR rs i j) k2 ∈ swapR rs i j := fun k2 h2 => rowR_mem (by rw [swap_len]; exact h2)
  by_cases e1 : k = i
  · have := row j hj
    rw [swap_row hi hj hj, if_pos rfl] at this
    rw [e1]; exact this
  · by_cases e2 : k = j
    · have := row i hi
      rw [swap_lead hi hj] at this
      rw [e2]; exact this
    · have := row k hk
      rw [swap_row hi hj hk, if_neg e2, if_neg e1] at this; exact this
def sp_law_due_9bdd : DSp := fun ds M Q _ => ∃ (m nr : Addr) (ks : List Str) (xs : List D) (b : Bk) (d : Dd), ds = [.ref m, ddD d] ∧ MdAt m nr ks xs b M ∧ BkOk b ∧ ks.length ≤ 1000 ∧ DdOk d ∧ Due m nr ks xs b (stp b d) M Q
def w_law_due_9bdd : DSt :=
  (dSeq (dIf (dTst (dOp rEqP (dOp rIxD (dVar 1) (dC (.int 0))) (dC (.str "reading"))))
  (dRet (dCall sp_law_reading_due (dCons (dVar 0) (dCons (dVar 1) dNil))))
  dNext)
  (dSeq (dIf (dOr (dTst (dOp rEqP (dOp rIxD (dVar 1) (dC (.int 0))) (dC (.str "point")))) (dOr (dTst (dOp rEqP (dOp rIxD (dVar 1) (dC (.int 0))) (dC (.str "approximation")))) (dTst (dOp rEqP (dOp rIxD (dVar 1) (dC (.int 0))) (dC (.str "remove"))))))
  (dRet (dCall sp_law_point_due (dCons (dVar 0) (dCons (dVar 1) dNil))))
  dNext)
  (dSeq (dSet 2 (dDGet (dVar 0) (dC (.str "readings"))))
  (dSeq (dSet 3 (dLc (dRng1 (dCons (dCB rLen (dCons (dVar 2) dNil)) dNil)) (gNm 6) (dTst (dOp rEqP (dOp rIxD (dOp rIxD (dVar 2) (dVar 6)) (dC (.int 0))) (dOp rIxD (dVar 1) (dC (.int 1))))) (dVar 6) [6]))
  (dSeq (dIf (dTst (dOp rEqP (dCB rLen (dCons (dVar 3) dNil)) (dC (.int 0))))
  (dRet (dCB rTup (dCons (dC (.str "mark")) (dCons (dOp rIxD (dVar 1) (dC (.int 1))) dNil))))
  dNext)
  (dSeq (dSet 4 (dOp rIxD (dVar 3) (dC (.int 0))))
  (dSeq (dSet 5 (dOp rIxD (dVar 2) (dVar 4)))
  (dSeq (dIf (dTst (dOp rEqP (dOp rIxD (dVar 1) (dC (.int 0))) (dC (.str "withdraw"))))
  (dSeq (dDPut (dVar 0) (dC (.str "readings")) (dOp rAddP (dSl (dVar 2) dNoPart (dPart (dVar 4))) (dSl (dVar 2) (dPart (dOp rAddP (dVar 4) (dC (.int 1)))) dNoPart)))
  (dRet (dC .non)))
  dNext)
  (dSeq (dIf (dAnd (dTst (dOp rEqP (dOp rIxD (dVar 1) (dC (.int 0))) (dC (.str "weight")))) (dTst (dOp rLe (dOp rIxD (dOp rIxD (dVar 1) (dC (.int 2))) (dC (.int 0))) (dC (.int 0)))))
  (dRet (dCB rTup (dCons (dC (.str "reading")) (dCons (dC (.str "weight")) dNil))))
  dNext)
  (dSeq (dIf (dTst (dOp rEqP (dOp rIxD (dVar 1) (dC (.int 0))) (dC (.str "weight"))))
  (dSet 5 (dCB rTup (dCons (dOp rIxD (dVar 5) (dC (.int 0))) (dCons (dOp rIxD (dVar 5) (dC (.int 1))) (dCons (dOp rIxD (dVar 5) (dC (.int 2))) (dCons (dOp rIxD (dVar 1) (dC (.int 2))) dNil))))))
  (dSet 5 (dCB rTup (dCons (dOp rIxD (dVar 5) (dC (.int 0))) (dCons (dOp rIxD (dVar 5) (dC (.int 1))) (dCons (dOp rIxD (dVar 1) (dC (.int 2))) (dCons (dOp rIxD (dVar 5) (dC (.int 3))) dNil)))))))
  (dSeq (dDPut (dVar 0) (dC (.str "readings")) (dOp rAddP (dOp rAddP (dSl (dVar 2) dNoPart (dPart (dVar 4))) (dCB rLstV (dCons (dVar 5) dNil))) (dSl (dVar 2) (dPart (dOp rAddP (dVar 4) (dC (.int 1)))) dNoPart)))
  (dRet (dC .non)))))))))))))
theorem lc_plc {Q : List D → Mem → Prop} {δ : DS0} {M : Mem} {l : List Rdg} {n : Str} {ys : List D} (h2 : ∀ z, (δ.set 6 (some z))[2]? = some (some (.lst (l.map rowD)))) (h1 : ∀ z, (δ.set 6 (some z))[1]? = some (some (.tup ys))) (hd : atI ys 1 = some (.str n)) (h6 : 6 < δ.length) (sn : SO n) (sl : ∀ r, r ∈ l → SO r.name) :
    ∀ (k a : Nat) (acc : List D), a + k = l.length → acc.length + k ≤ sizeLine → Q (acc ++ (((List.range' a k).filter fun i => decide ((l[i]?.map Rdg.name) = some n))).map fun (i : Nat) => D.int (i : Int)) M →
    dLcL always (gNm 6) (dTst (dOp rEqP (dOp rIxD (dOp rIxD (dVar 2) (dVar 6)) (dC (.int 0))) (dOp rIxD (dVar 1) (dC (.int 1))))) (dVar 6) δ ((List.range' a k).map fun (i : Nat) => D.int (i : Int)) acc M Q
  | 0, a, acc, _, _, q => ⟨trivial, by simpa using q⟩
  | k + 1, a, acc, ha, hl, q => by
    have hlt : a < l.length := by omega
    have e6 : (δ.set 6 (some (D.int (a : Int))))[6]? = some (some (.int (a : Int))) := by rw [List.getElem?_set_self h6]
    obtain ⟨r, er⟩ : ∃ r, l[a]? = some r := ⟨l[a], List.getElem?_eq_getElem hlt⟩
    have sr := sl r (List.mem_of_getElem? er)
    have eat : atI (l.map rowD) (a : Int) = some (rowD r) := atI_nn (by omega) (by rw [Int.toNat_natCast, List.getElem?_map, er]; rfl)
    rw [List.range'_succ] at q
    refine ⟨trivial, by omega, _, h2 _, _, e6, (a : Int), rfl, _, eat, 0, rfl, _, rfl, _, h1 _, 1, rfl, _, hd, .inl ⟨sr, sn, eS ⟨_, rfl, ?_⟩⟩⟩
    rw [List.filter_cons, er] at q
    by_cases c : r.name = n
    · rw [show decide (Option.map Rdg.name (some r) = some n) = true from decide_eq_true (by rw [c.symm]; rfl)] at q
      rw [decide_eq_true c]
      refine ite_t ⟨_, e6, lc_plc h2 h1 hd h6 sn sl k (a + 1) _ (by omega) (by rw [List.length_append, List.length_singleton]; omega) ?_⟩
      rw [List.append_assoc]; exact q
    · rw [show decide (Option.map Rdg.name (some r) = some n) = false from decide_eq_false (fun z => c (Option.some.inj z))] at q
      rw [decide_eq_false c]
      exact ite_f (lc_plc h2 h1 hd h6 sn sl k (a + 1) acc (by omega) (by omega) q)
theorem plc_filter {n : Str} {l : List Rdg} : match plc l n with
  | none => ((List.range' 0 l.length).filter fun i => decide ((l[i]?.map Rdg.name) = some n)) = []
  | some (i, _) => ∃ t, ((List.range' 0 l.length).filter fun i => decide ((l[i]?.map Rdg.name) = some n)) = i :: t := by
  have gen : ∀ (l2 pre : List Rdg), l = pre ++ l2 → match plc l2 n with
      | none => ((List.range' pre.length l2.length).filter fun i => decide ((l[i]?.map Rdg.name) = some n)) = []
      | some (i, _) => ∃ t, ((List.range' pre.length l2.length).filter fun i => decide ((l[i]?.map Rdg.name) = some n)) = (pre.length + i) :: t := by
    intro l2
    induction l2 with
    | nil => intro pre _; rfl
    | cons r l2 ih =>
      intro pre hl
      have e1 : l[pre.length]? = some r := by rw [hl, List.getElem?_append_right (Nat.le_refl _), Nat.sub_self]; rfl
      have ih := ih (pre ++ [r]) (by rw [hl, List.append_assoc]; rfl)
      rw [List.length_cons, List.range'_succ, List.filter_cons, e1]
      by_cases c : r.name = n
      · rw [show plc (r :: l2) n = some (0, r) from if_pos c, show decide (Option.map Rdg.name (some r) = some n) = true from decide_eq_true (by rw [← c]; rfl)]
        exact ⟨_, rfl⟩
      · rw [show plc (r :: l2) n = (plc l2 n).map (fun x => (x.1 + 1, x.2)) from if_neg c, show decide (Option.map Rdg.name (some r) = some n) = false from decide_eq_false (fun z => c (Option.some.inj z))]
        rw [List.length_append, List.length_singleton] at ih
        cases hp : plc l2 n with
        | none => rw [hp] at ih; exact ih
        | some x =>
          rw [hp] at ih
          obtain ⟨t, ht⟩ := ih
          refine ⟨t, ?_⟩
          show (if false = true then _ else _) = _
          rw [if_neg Bool.false_ne_true, ht]
          show (pre.length + 1 + x.1) :: t = (pre.length + (x.1 + 1)) :: t
          rw [Nat.add_assoc, Nat.add_comm 1]
  have := gen l [] rfl
  cases hp : plc l n with
  | none => rw [hp] at this; exact this
  | some x =>
    rw [hp] at this
    obtain ⟨t, ht⟩ := this
    exact ⟨t, by rw [← Nat.zero_add x.1]; exact ht⟩
theorem at0 {α : Type} {x : α} {xs : List α} : atI (x :: xs) 0 = some x := atI_nn (by decide) rfl
theorem put_mid {Q : DK} {δ : DS0} {M : Mem} {l : List Rdg} {i : Nat} {r : Rdg} (h2 : δ[2]? = some (some (.lst (l.map rowD)))) (h4 : δ[4]? = some (some (.int (i : Int)))) (h5 : δ[5]? = some (some (rowD r))) (hi : i < l.length) (few : l.length ≤ 24) (q : Q (.lst ((l.set i r).map rowD)) M) :
    dOp rAddP (dOp rAddP (dSl (dVar 2) dNoPart (dPart (dVar 4))) (dCB rLstV (dCons (dVar 5) dNil))) (dSl (dVar 2) (dPart (dOp rAddP (dVar 4) (dC (.int 1)))) dNoPart) δ M Q := by
  refine ⟨_, h2, _, h4, (i : Int), rfl, .inl ⟨_, rfl, ?_⟩⟩
  rw [cut_take (xs := l.map rowD) (by rw [List.length_map]; omega)]
  refine ⟨_, h5, by show 1 ≤ sizeLine; decide, ?_, ?_⟩
  · rw [List.length_take, List.length_map]; exact sz16 (by show _ + 1 ≤ _; omega)
  refine ⟨_, h2, _, h4, ((i + 1 : Nat) : Int), rfl, .inl ⟨_, rfl, ?_⟩⟩
  rw [cut_dropN (xs := l.map rowD) (by rw [List.length_map]; omega)]
  refine ⟨?_, ?_⟩
  · rw [List.length_append, List.length_take, List.length_drop, List.length_map]; exact sz16 (by show _ + 1 + _ ≤ _; omega)
  · rw [List.map_set, List.set_eq_take_append_cons_drop, if_pos (by rw [List.length_map]; exact hi)] at q
    rw [List.append_assoc]
    exact q
theorem put_out {Q : DK} {δ : DS0} {M : Mem} {l : List Rdg} {i : Nat} (h2 : δ[2]? = some (some (.lst (l.map rowD)))) (h4 : δ[4]? = some (some (.int (i : Int)))) (hi : i < l.length) (few : l.length ≤ 24) (q : Q (.lst ((l.eraseIdx i).map rowD)) M) :
    dOp rAddP (dSl (dVar 2) dNoPart (dPart (dVar 4))) (dSl (dVar 2) (dPart (dOp rAddP (dVar 4) (dC (.int 1)))) dNoPart) δ M Q := by
  refine ⟨_, h2, _, h4, (i : Int), rfl, .inl ⟨_, rfl, ?_⟩⟩
  rw [cut_take (xs := l.map rowD) (by rw [List.length_map]; omega)]
  refine ⟨_, h2, _, h4, ((i + 1 : Nat) : Int), rfl, .inl ⟨_, rfl, ?_⟩⟩
  rw [cut_dropN (xs := l.map rowD) (by rw [List.length_map]; omega)]
  refine ⟨?_, ?_⟩
  · rw [List.length_take, List.length_drop, List.length_map]; exact sz16 (by omega)
  · rw [List.eraseIdx_eq_take_drop_succ, List.map_append, List.map_take, List.map_drop] at q
    exact q
theorem rd_law_due_9bdd (ds M Q E) (h : sp_law_due_9bdd ds M Q E) : w_law_due_9bdd { nx := fun _ M' => Q .non M', rt := Q } (startD 7 ds) M := by
  obtain ⟨m, nr, ks, xs, b, d, rfl, A, ok, hks, sd, hq⟩ := h
  have l2 : 2 ≤ sizeLine := by decide
  have lw : ∀ {x y : Str} {M : Mem} {Q : DK}, SO x → SO y → Q (.bl (decide (x = y))) M → rEqP (.str x) (.str y) M Q := fun sx sy q => .inl ⟨sx, sy, eS q⟩
  cases d with
  | reading r =>
    exact ⟨_, rfl, 0, rfl, _, rfl, .inl ⟨by decide +kernel, by decide +kernel, eS ⟨_, rfl, ite_t ⟨_, rfl, _, rfl, m, nr, ks, xs, b, r, rfl, A, ok, sd, hq⟩⟩⟩⟩
  | point n q =>
    refine ⟨_, rfl, 0, rfl, _, rfl, .inl ⟨by decide +kernel, by decide +kernel, eS ⟨_, rfl, ite_f ?_⟩⟩⟩
    exact ⟨_, rfl, 0, rfl, _, rfl, .inl ⟨by decide +kernel, by decide +kernel, eS ⟨_, rfl, ite_t (ite_t ⟨_, rfl, _, rfl, m, nr, ks, xs, b, .point n q, rfl, A, ok, hks, sd, hq⟩)⟩⟩⟩
  | appr n q =>
    refine ⟨_, rfl, 0, rfl, _, rfl, .inl ⟨by decide +kernel, by decide +kernel, eS ⟨_, rfl, ite_f ?_⟩⟩⟩
    refine ⟨_, rfl, 0, rfl, _, rfl, .inl ⟨by decide +kernel, by decide +kernel, eS ⟨_, rfl, ite_f ?_⟩⟩⟩
    exact ⟨_, rfl, 0, rfl, _, rfl, .inl ⟨by decide +kernel, by decide +kernel, eS ⟨_, rfl, ite_t (ite_t ⟨_, rfl, _, rfl, m, nr, ks, xs, b, .appr n q, rfl, A, ok, hks, sd, hq⟩)⟩⟩⟩
  | remove n =>
    refine ⟨_, rfl, 0, rfl, _, rfl, .inl ⟨by decide +kernel, by decide +kernel, eS ⟨_, rfl, ite_f ?_⟩⟩⟩
    refine ⟨_, rfl, 0, rfl, _, rfl, .inl ⟨by decide +kernel, by decide +kernel, eS ⟨_, rfl, ite_f ?_⟩⟩⟩
    refine ⟨_, rfl, 0, rfl, _, rfl, .inl ⟨by decide +kernel, by decide +kernel, eS ⟨_, rfl, ite_f ?_⟩⟩⟩
    exact ⟨_, rfl, 0, rfl, _, rfl, .inl ⟨by decide +kernel, by decide +kernel, eS ⟨_, rfl, ite_t ⟨_, rfl, _, rfl, m, nr, ks, xs, b, .remove n, rfl, A, ok, hks, sd, hq⟩⟩⟩⟩
  | value n q =>
    have sn : SO n := sd
    have hq : Due m nr ks xs b (chV b n q) M Q := hq
    refine ⟨_, rfl, 0, rfl, _, rfl, .inl ⟨by decide +kernel, by decide +kernel, eS ⟨_, rfl, ite_f ?_⟩⟩⟩
    refine ⟨_, rfl, 0, rfl, _, rfl, .inl ⟨by decide +kernel, by decide +kernel, eS ⟨_, rfl, ite_f ?_⟩⟩⟩
    refine ⟨_, rfl, 0, rfl, _, rfl, .inl ⟨by decide +kernel, by decide +kernel, eS ⟨_, rfl, ite_f ?_⟩⟩⟩
    refine ⟨_, rfl, 0, rfl, _, rfl, .inl ⟨by decide +kernel, by decide +kernel, eS ⟨_, rfl, ite_f ?_⟩⟩⟩
    refine ⟨_, rfl, m, _, _, _, _, rfl, rfl, A.at_, rfl, ?_⟩
    refine ⟨_, rfl, _, b.rds.length, rfl, by show _ = (b.rds.map rowD).length; rw [List.length_map], _, rfl, ⟨by omega, by have := ok.fewR; omega⟩, ?_⟩
    rw [rngD_eq]
    refine lc_plc (fun z => rfl) (fun z => rfl) rfl (by show 6 < 7; decide) sn (fun r hr => (ok.ro r hr).nm) b.rds.length 0 [] (by omega) (by show 0 + _ ≤ _; have := ok.fewR; exact sz16 (by omega)) ?_
    rw [List.nil_append]
    have pf := plc_filter (n := n) (l := b.rds)
    unfold chV at hq
    cases hp : plc b.rds n with
    | none =>
      rw [hp] at pf hq
      have pf : _ = [] := pf
      rw [pf]
      exact ⟨_, rfl, _, 0, rfl, rfl, .inl ⟨rfl, rfl, eI ⟨_, rfl, ite_t ⟨_, rfl, 1, rfl, _, rfl, l2, hq M KpX.refl A⟩⟩⟩⟩
    | some x =>
      obtain ⟨i, r⟩ := x
      rw [hp] at pf hq
      obtain ⟨t, pf⟩ := pf
      rw [pf]
      obtain ⟨h1, h2, h3⟩ := plc_some hp
      have hq : Due m nr ks xs b (.ok ⟨b.pts, b.near, b.rds.set i ⟨n, r.terms, q, r.weight⟩⟩) M Q := hq
      have eat : atI (b.rds.map rowD) (i : Int) = some (rowD r) := atI_nn (by omega) (by rw [Int.toNat_natCast, List.getElem?_map, h1]; rfl)
      refine ⟨_, rfl, _, t.length + 1, rfl, by show _ = (_ :: _ : List D).length; rw [List.length_cons, List.length_map], .inl ⟨rfl, rfl, eI ⟨_, rfl, ?_⟩⟩⟩
      rw [decide_eq_false (show ¬ ((t.length + 1 : Nat) : Int) = 0 by omega)]
      refine ite_f ⟨_, rfl, 0, rfl, .int (i : Int), at0, ?_⟩
      refine ⟨_, rfl, _, rfl, (i : Int), rfl, _, eat, ?_⟩
      refine ⟨_, rfl, 0, rfl, _, rfl, .inl ⟨by decide +kernel, by decide +kernel, eS ⟨_, rfl, ite_f ?_⟩⟩⟩
      refine ⟨_, rfl, 0, rfl, _, rfl, .inl ⟨by decide +kernel, by decide +kernel, eS ⟨_, rfl, ite_f (ite_f ?_)⟩⟩⟩
      refine ⟨_, rfl, 0, rfl, _, rfl, .inl ⟨by decide +kernel, by decide +kernel, eS ⟨_, rfl, ite_f ?_⟩⟩⟩
      refine ⟨_, rfl, 0, rfl, _, rfl, _, rfl, 1, rfl, _, rfl, _, rfl, 2, rfl, _, rfl, _, rfl, 3, rfl, _, rfl, by show 4 ≤ sizeLine; decide, ?_⟩
      refine put_mid (l := b.rds) (i := i) (r := ⟨r.name, r.terms, q, r.weight⟩) rfl rfl rfl h3 ok.fewR ?_
      refine ⟨_, rfl, m, _, _, _, rfl, rfl, A.at_, by show 3 < sizeLine; decide, ?_⟩
      rw [h2]
      exact hq nr ks xs _ (A.rds _) (by omega) (.inl rfl) (KpX.put KpX.refl)
  | weight n q =>
    have sn : SO n := sd
    have hq : Due m nr ks xs b (chW b n q) M Q := hq
    refine ⟨_, rfl, 0, rfl, _, rfl, .inl ⟨by decide +kernel, by decide +kernel, eS ⟨_, rfl, ite_f ?_⟩⟩⟩
    refine ⟨_, rfl, 0, rfl, _, rfl, .inl ⟨by decide +kernel, by decide +kernel, eS ⟨_, rfl, ite_f ?_⟩⟩⟩
    refine ⟨_, rfl, 0, rfl, _, rfl, .inl ⟨by decide +kernel, by decide +kernel, eS ⟨_, rfl, ite_f ?_⟩⟩⟩
    refine ⟨_, rfl, 0, rfl, _, rfl, .inl ⟨by decide +kernel, by decide +kernel, eS ⟨_, rfl, ite_f ?_⟩⟩⟩
    refine ⟨_, rfl, m, _, _, _, _, rfl, rfl, A.at_, rfl, ?_⟩
    refine ⟨_, rfl, _, b.rds.length, rfl, by show _ = (b.rds.map rowD).length; rw [List.length_map], _, rfl, ⟨by omega, by have := ok.fewR; omega⟩, ?_⟩
    rw [rngD_eq]
    refine lc_plc (fun z => rfl) (fun z => rfl) rfl (by show 6 < 7; decide) sn (fun r hr => (ok.ro r hr).nm) b.rds.length 0 [] (by omega) (by show 0 + _ ≤ _; have := ok.fewR; exact sz16 (by omega)) ?_
    rw [List.nil_append]
    have pf := plc_filter (n := n) (l := b.rds)
    unfold chW at hq
    cases hp : plc b.rds n with
    | none =>
      rw [hp] at pf hq
      have pf : _ = [] := pf
      rw [pf]
      exact ⟨_, rfl, _, 0, rfl, rfl, .inl ⟨rfl, rfl, eI ⟨_, rfl, ite_t ⟨_, rfl, 1, rfl, _, rfl, l2, hq M KpX.refl A⟩⟩⟩⟩
    | some x =>
      obtain ⟨i, r⟩ := x
      rw [hp] at pf hq
      obtain ⟨t, pf⟩ := pf
      rw [pf]
      obtain ⟨h1, h2, h3⟩ := plc_some hp
      have hq : Due m nr ks xs b (if q.num ≤ 0 then .error (.badr, "weight") else .ok ⟨b.pts, b.near, b.rds.set i ⟨n, r.terms, r.value, q⟩⟩) M Q := hq
      have eat : atI (b.rds.map rowD) (i : Int) = some (rowD r) := atI_nn (by omega) (by rw [Int.toNat_natCast, List.getElem?_map, h1]; rfl)
      refine ⟨_, rfl, _, t.length + 1, rfl, by show _ = (_ :: _ : List D).length; rw [List.length_cons, List.length_map], .inl ⟨rfl, rfl, eI ⟨_, rfl, ?_⟩⟩⟩
      rw [decide_eq_false (show ¬ ((t.length + 1 : Nat) : Int) = 0 by omega)]
      refine ite_f ⟨_, rfl, 0, rfl, .int (i : Int), at0, ?_⟩
      refine ⟨_, rfl, _, rfl, (i : Int), rfl, _, eat, ?_⟩
      refine ⟨_, rfl, 0, rfl, _, rfl, .inl ⟨by decide +kernel, by decide +kernel, eS ⟨_, rfl, ite_f ?_⟩⟩⟩
      refine ⟨_, rfl, 0, rfl, _, rfl, .inl ⟨by decide +kernel, by decide +kernel, eS ⟨_, rfl, ite_t ⟨_, rfl, 2, rfl, _, rfl, 0, rfl, _, rfl, trivial, _, rfl, ite_d (fun h => ?_) fun h => ?_⟩⟩⟩⟩
      · rw [if_pos h] at hq
        exact ⟨l2, hq M KpX.refl A⟩
      rw [if_neg h] at hq
      refine ⟨_, rfl, 0, rfl, _, rfl, .inl ⟨by decide +kernel, by decide +kernel, eS ⟨_, rfl, ite_t ?_⟩⟩⟩
      refine ⟨_, rfl, 0, rfl, _, rfl, _, rfl, 1, rfl, _, rfl, _, rfl, 2, rfl, _, rfl, _, rfl, 2, rfl, _, rfl, by show 4 ≤ sizeLine; decide, ?_⟩
      refine put_mid (l := b.rds) (i := i) (r := ⟨r.name, r.terms, r.value, q⟩) rfl rfl rfl h3 ok.fewR ?_
      refine ⟨_, rfl, m, _, _, _, rfl, rfl, A.at_, by show 3 < sizeLine; decide, ?_⟩
      rw [h2]
      exact hq nr ks xs _ (A.rds _) (by omega) (.inl rfl) (KpX.put KpX.refl)
  | withdraw n =>
    have sn : SO n := sd
    have hq : Due m nr ks xs b (wdr b n) M Q := hq
    refine ⟨_, rfl, 0, rfl, _, rfl, .inl ⟨by decide +kernel, by decide +kernel, eS ⟨_, rfl, ite_f ?_⟩⟩⟩
    refine ⟨_, rfl, 0, rfl, _, rfl, .inl ⟨by decide +kernel, by decide +kernel, eS ⟨_, rfl, ite_f ?_⟩⟩⟩
    refine ⟨_, rfl, 0, rfl, _, rfl, .inl ⟨by decide +kernel, by decide +kernel, eS ⟨_, rfl, ite_f ?_⟩⟩⟩
    refine ⟨_, rfl, 0, rfl, _, rfl, .inl ⟨by decide +kernel, by decide +kernel, eS ⟨_, rfl, ite_f ?_⟩⟩⟩
    refine ⟨_, rfl, m, _, _, _, _, rfl, rfl, A.at_, rfl, ?_⟩
    refine ⟨_, rfl, _, b.rds.length, rfl, by show _ = (b.rds.map rowD).length; rw [List.length_map], _, rfl, ⟨by omega, by have := ok.fewR; omega⟩, ?_⟩
    rw [rngD_eq]
    refine lc_plc (fun z => rfl) (fun z => rfl) rfl (by show 6 < 7; decide) sn (fun r hr => (ok.ro r hr).nm) b.rds.length 0 [] (by omega) (by show 0 + _ ≤ _; have := ok.fewR; exact sz16 (by omega)) ?_
    rw [List.nil_append]
    have pf := plc_filter (n := n) (l := b.rds)
    unfold wdr at hq
    cases hp : plc b.rds n with
    | none =>
      rw [hp] at pf hq
      have pf : _ = [] := pf
      rw [pf]
      exact ⟨_, rfl, _, 0, rfl, rfl, .inl ⟨rfl, rfl, eI ⟨_, rfl, ite_t ⟨_, rfl, 1, rfl, _, rfl, l2, hq M KpX.refl A⟩⟩⟩⟩
    | some x =>
      obtain ⟨i, r⟩ := x
      rw [hp] at pf hq
      obtain ⟨t, pf⟩ := pf
      rw [pf]
      obtain ⟨h1, h2, h3⟩ := plc_some hp
      have hq : Due m nr ks xs b (.ok ⟨b.pts, b.near, b.rds.eraseIdx i⟩) M Q := hq
      have eat : atI (b.rds.map rowD) (i : Int) = some (rowD r) := atI_nn (by omega) (by rw [Int.toNat_natCast, List.getElem?_map, h1]; rfl)
      refine ⟨_, rfl, _, t.length + 1, rfl, by show _ = (_ :: _ : List D).length; rw [List.length_cons, List.length_map], .inl ⟨rfl, rfl, eI ⟨_, rfl, ?_⟩⟩⟩
      rw [decide_eq_false (show ¬ ((t.length + 1 : Nat) : Int) = 0 by omega)]
      refine ite_f ⟨_, rfl, 0, rfl, .int (i : Int), at0, ?_⟩
      refine ⟨_, rfl, _, rfl, (i : Int), rfl, _, eat, ?_⟩
      refine ⟨_, rfl, 0, rfl, _, rfl, .inl ⟨by decide +kernel, by decide +kernel, eS ⟨_, rfl, ite_t ?_⟩⟩⟩
      refine put_out (l := b.rds) (i := i) rfl rfl h3 ok.fewR ?_
      refine ⟨_, rfl, m, _, _, _, rfl, rfl, A.at_, by show 3 < sizeLine; decide, ?_⟩
      exact hq nr ks xs _ (A.rds _) (by omega) (.inl rfl) (KpX.put KpX.refl)
theorem at_map {α : Type} (f : α → D) {xs : List α} {k : Int} (h0 : 0 ≤ k) (h1 : k < xs.length) : ∃ x, x ∈ xs ∧ atI (xs.map f) k = some (f x) := by
  have hk : k.toNat < xs.length := by omega
  exact ⟨xs[k.toNat], List.getElem_mem hk, atI_nn h0 (by rw [List.getElem?_map, List.getElem?_eq_getElem hk]; rfl)⟩
theorem KpX.off {st : Addr} {M M' : Mem} (h : Off st M M') : KpX st M M' := fun a o n e => (h a n).trans e
def TmOk (t : List (Str × Int)) : Prop := ∀ x, x ∈ t → SO x.1
theorem Lw.ne {st b M p} (h : Lw st b M) (hp : M p = none) : p ≠ st := fun e => by obtain ⟨_, _, _, _, _, e2⟩ := h; rw [← e, hp] at e2; cases e2
theorem Lw.at_ {st b M M'} (h : Lw st b M) (e : M' st = M st) : Lw st b M' := by obtain ⟨ts, k, t, h0, h1, e2⟩ := h; exact ⟨ts, k, t, h0, h1, e.trans e2⟩
theorem at0' {α : Type} {x : α} {xs : List α} : atI (x :: xs) 0 = some x := atI_nn (by decide) rfl
def sp_law_spoilt : DSp := fun ds M Q _ => ∃ (st : Addr) (b : Nat) (t : List (Str × Int)), ds = [.ref st, trmsD t] ∧ Lw st b M ∧ b ≤ 1000000 ∧ TmOk t ∧ t.length ≤ 5 ∧ ∀ (t' : List (Str × Int)) M', TmOk t' → t'.length ≤ 50 → Lw st (b + 2) M' → Off st M M' → Q (trmsD t') M'
def w_law_spoilt : DSt :=
  (dSeq (dSet 2 (dCall sp_law_take_65a1 (dCons (dVar 0) (dCons (dC (.int 6)) dNil))))
  (dSeq (dIf (dOr (dTst (dOp rEqP (dVar 2) (dC (.int 0)))) (dTst (dOp rEqP (dCB rLen (dCons (dVar 1) dNil)) (dC (.int 0)))))
  (dRet (dCB rTup dNil))
  dNext)
  (dSeq (dIf (dTst (dOp rEqP (dVar 2) (dC (.int 1))))
  (dRet (dOp rCatT (dVar 1) (dSl (dVar 1) dNoPart (dPart (dC (.int 1))))))
  dNext)
  (dSeq (dIf (dTst (dOp rEqP (dVar 2) (dC (.int 2))))
  (dRet (dOp rCatT (dRev (dVar 1) (dUn rNeg (dC (.int 1)))) (dCB rTup (dCons (dCB rTup (dCons (dC (.str "A")) (dCons (dC (.int 1)) dNil))) dNil))))
  dNext)
  (dSeq (dIf (dTst (dOp rEqP (dVar 2) (dC (.int 3))))
  (dRet (dOp rCatT (dCB rTup (dCons (dCB rTup (dCons (dOp rIxD (dOp rIxD (dVar 1) (dC (.int 0))) (dC (.int 0))) (dCons (dOp rIxD (dCB rLstV (dCons (dC (.int 0)) (dCons (dC (.int 10)) (dCons (dUn rNeg (dC (.int 10))) dNil)))) (dCall sp_law_take_65a1 (dCons (dVar 0) (dCons (dC (.int 3)) dNil)))) dNil))) dNil)) (dSl (dVar 1) (dPart (dC (.int 1))) dNoPart)))
  dNext)
  (dSeq (dIf (dTst (dOp rEqP (dVar 2) (dC (.int 4))))
  (dRet (dOp rCatT (dVar 1) (dCB rTup (dCons (dCB rTup (dCons (dC (.str "zz")) (dCons (dC (.int 1)) dNil))) dNil))))
  dNext)
  (dRet (dOp rCatT (dCB rTup (dCons (dCB rTup (dCons (dC (.str "0")) (dCons (dC (.int 2)) dNil))) dNil)) (dVar 1)))))))))
theorem rd_law_spoilt (ds M Q E) (h : sp_law_spoilt ds M Q E) : w_law_spoilt { nx := fun _ M' => Q .non M', rt := Q } (startD 3 ds) M := by
  obtain ⟨st, b, t, rfl, hL, hb, ht, h5, hq⟩ := h
  refine ⟨_, rfl, st, b, 6, rfl, hL, by omega, by decide, fun w M1 hw0 hw1 hL1 hO1 => ?_⟩
  have nilQ : Q (.tup []) M1 := hq [] M1 (fun x h => nomatch h) (by decide) (hL1.mono (by omega)) hO1
  refine ⟨_, rfl, .inl ⟨rfl, rfl, eI ⟨_, rfl, ite_d (fun h => ite_t ⟨by show 0 ≤ sizeLine; decide, nilQ⟩) fun h => ?_⟩⟩⟩
  refine ⟨_, rfl, _, t.length, rfl, by show _ = (t.map trmD).length; rw [List.length_map], .inl ⟨rfl, rfl, eI ⟨_, rfl, ite_d (fun h => ⟨by show 0 ≤ sizeLine; decide, nilQ⟩) fun h0 => ?_⟩⟩⟩
  obtain ⟨x, t2, rfl⟩ : ∃ x t2, t = x :: t2 := by
    cases t with
    | nil => exact absurd rfl h0
    | cons x t2 => exact ⟨x, t2, rfl⟩
  rw [List.length_cons] at h5
  refine ⟨_, rfl, .inl ⟨rfl, rfl, eI ⟨_, rfl, ite_d (fun h1 => ?_) fun h1 => ?_⟩⟩⟩
  · refine ⟨_, rfl, _, rfl, 1, rfl, .inr (.inr ⟨_, rfl, ?_⟩)⟩
    have ec : cutD ((x :: t2).map trmD) none (some 1) = ((x :: t2).map trmD).take 1 := cut_take (k := 1) (by simp)
    rw [ec]
    refine ⟨_, _, rfl, rfl, ?_, ?_⟩
    · rw [List.length_take, List.length_map, List.length_cons]; exact sz16 (by omega)
    have := hq (x :: t2 ++ [x]) M1 (fun y hy => ?_) ?_ (hL1.mono (by omega)) hO1
    · rw [show trmsD (x :: t2 ++ [x]) = .tup ((x :: t2).map trmD ++ ((x :: t2).map trmD).take 1) by unfold trmsD; rw [List.map_append]; rfl] at this
      exact this
    · rcases List.mem_append.mp hy with h | h
      · exact ht y h
      · rw [List.mem_singleton.mp h]; exact ht x List.mem_cons_self
    · rw [List.length_append, List.length_cons, List.length_singleton]; omega
  refine ⟨_, rfl, .inl ⟨rfl, rfl, eI ⟨_, rfl, ite_d (fun h1 => ?_) fun h1 => ?_⟩⟩⟩
  · refine ⟨_, rfl, rfl, _, rfl, by show 2 ≤ sizeLine; decide, by show 1 ≤ sizeLine; decide, _, _, rfl, rfl, ?_, ?_⟩
    · rw [List.length_reverse, List.length_map, List.length_cons]; exact sz16 (by show _ + 1 ≤ _; omega)
    have := hq ((x :: t2).reverse ++ [(("A" : Str), (1 : Int))]) M1 (fun y hy => ?_) ?_ (hL1.mono (by omega)) hO1
    · rw [show trmsD ((x :: t2).reverse ++ [(("A" : Str), (1 : Int))]) = .tup (((x :: t2).map trmD).reverse ++ [trmD (("A" : Str), (1 : Int))]) by unfold trmsD; rw [List.map_append, List.map_reverse]; rfl] at this
      exact this
    · rcases List.mem_append.mp hy with h | h
      · exact ht y (List.mem_reverse.mp h)
      · rw [List.mem_singleton.mp h]; show PyData.strOk _ = true; decide +kernel
    · rw [List.length_append, List.length_reverse, List.length_cons, List.length_singleton]; omega
  refine ⟨_, rfl, .inl ⟨rfl, rfl, eI ⟨_, rfl, ite_d (fun h1 => ?_) fun h1 => ?_⟩⟩⟩
  · refine ⟨_, rfl, 0, rfl, trmD x, at0', 0, rfl, _, at0', by show 3 ≤ sizeLine; decide, _, rfl, st, _, 3, rfl, hL1, by omega, by decide, fun c M2 hc0 hc1 hL2 hO2 => ?_⟩
    obtain ⟨z, hz, ez⟩ := at_map D.int (xs := [0, 10, -10]) hc0 hc1
    refine ⟨c, rfl, _, ez, by show 2 ≤ sizeLine; decide, by show 1 ≤ sizeLine; decide, _, rfl, 1, rfl, .inr (.inr ⟨_, rfl, ?_⟩)⟩
    have ec : cutD ((x :: t2).map trmD) (some 1) none = ((x :: t2).map trmD).drop 1 := cut_dropN (k := 1) (by simp)
    rw [ec]
    refine ⟨_, _, rfl, rfl, ?_, hq ((x.1, z) :: t2) M2 (fun y hy => ?_) ?_ (hL2.mono (by omega)) (hO1.trans hO2)⟩
    · simp only [List.length_drop, List.length_map, List.length_cons, List.length_nil]; exact sz16 (by omega)
    · rcases List.mem_cons.mp hy with h | h
      · rw [h]; exact ht x List.mem_cons_self
      · exact ht y (List.mem_cons_of_mem _ h)
    · rw [List.length_cons]; omega
  refine ⟨_, rfl, .inl ⟨rfl, rfl, eI ⟨_, rfl, ite_d (fun h1 => ?_) fun h1 => ?_⟩⟩⟩
  · refine ⟨_, rfl, by show 2 ≤ sizeLine; decide, by show 1 ≤ sizeLine; decide, _, _, rfl, rfl, ?_, ?_⟩
    · rw [List.length_map, List.length_cons]; exact sz16 (by show _ + 1 ≤ _; omega)
    have := hq (x :: t2 ++ [(("zz" : Str), (1 : Int))]) M1 (fun y hy => ?_) ?_ (hL1.mono (by omega)) hO1
    · rw [show trmsD (x :: t2 ++ [(("zz" : Str), (1 : Int))]) = .tup ((x :: t2).map trmD ++ [trmD (("zz" : Str), (1 : Int))]) by unfold trmsD; rw [List.map_append]; rfl] at this
      exact this
    · rcases List.mem_append.mp hy with h | h
      · exact ht y h
      · rw [List.mem_singleton.mp h]; show PyData.strOk _ = true; decide +kernel
    · rw [List.length_append, List.length_cons, List.length_singleton]; omega
  refine ⟨by show 2 ≤ sizeLine; decide, by show 1 ≤ sizeLine; decide, _, rfl, _, _, rfl, rfl, ?_, hq ((("0" : Str), (2 : Int)) :: x :: t2) M1 (fun y hy => ?_) ?_ (hL1.mono (by omega)) hO1⟩
  · simp only [List.length_map, List.length_cons, List.length_nil]; exact sz16 (by omega)
  · rcases List.mem_cons.mp hy with h | h
    · rw [h]; show PyData.strOk _ = true; decide +kernel
    · exact ht y h
  · rw [List.length_cons, List.length_cons]; omega
def menuN : List Str := ["A", "B", "B1", "Z", "a", "b_2", "c", "d", "e", "f", "g", "h", "i"]
def sp_law_menu : DSp := fun ds M Q _ => ds = [] ∧ Q (.lst (menuN.map D.str)) M
def w_law_menu : DSt :=
  (dRet (dCB rLstV (dCons (dC (.str "A")) (dCons (dC (.str "B")) (dCons (dC (.str "B1")) (dCons (dC (.str "Z")) (dCons (dC (.str "a")) (dCons (dC (.str "b_2")) (dCons (dC (.str "c")) (dCons (dC (.str "d")) (dCons (dC (.str "e")) (dCons (dC (.str "f")) (dCons (dC (.str "g")) (dCons (dC (.str "h")) (dCons (dC (.str "i")) dNil)))))))))))))))
theorem menu_so : ∀ x, x ∈ menuN → SO x := by
  have : (menuN.all fun x => PyData.strOk x) = true := by decide +kernel
  exact fun x hx => List.all_eq_true.mp this x hx
theorem rd_law_menu (ds M Q E) (h : sp_law_menu ds M Q E) : w_law_menu { nx := fun _ M' => Q .non M', rt := Q } (startD 0 ds) M := by
  obtain ⟨rfl, hq⟩ := h
  exact ⟨by show 13 ≤ sizeLine; decide, hq⟩
def sp_law_terms_5923 : DSp := fun ds M Q _ => ∃ (st : Addr) (b : Nat) (ns : List Str), ds = [.ref st, .lst (ns.map D.str)] ∧ Lw st b M ∧ b ≤ 1000000 ∧ (∀ x, x ∈ ns → SO x) ∧ ∀ (t : List (Str × Int)) M', TmOk t → t.length ≤ 5 → Lw st (b + 30) M' → KpX st M M' → Q (trmsD t) M'
def w_law_terms_5923 : DSt :=
  (dSeq (dSet 2 (dCB rLstR dNil))
  (dSeq (dFor (dIt (dCall sp_law_menu dNil)) (gNm 3)
  (dIf (dAnd (dTst (dOp rInP (dVar 3) (dVar 1))) (dAnd (dTst (dOp rGt (dCall sp_law_take_65a1 (dCons (dVar 0) (dCons (dC (.int 3)) dNil))) (dC (.int 0)))) (dTst (dOp rLt (dCB rLen (dCons (dVar 2) dNil)) (dC (.int 4))))))
  (dDrop (dApp (dVar 2) (dCons (dCB rTup (dCons (dVar 3) (dCons (dOp rIxD (dCB rLstV (dCons (dC (.int 1)) (dCons (dUn rNeg (dC (.int 1))) (dCons (dUn rNeg (dC (.int 1))) (dCons (dC (.int 1)) (dCons (dC (.int 2)) (dCons (dUn rNeg (dC (.int 3))) (dCons (dC (.int 9)) (dCons (dUn rNeg (dC (.int 9))) dNil))))))))) (dCall sp_law_take_65a1 (dCons (dVar 0) (dCons (dC (.int 8)) dNil)))) dNil))) dNil)))
  dNext))
  (dSeq (dIf (dAnd (dTst (dOp rEqP (dCB rLen (dCons (dVar 2) dNil)) (dC (.int 0)))) (dTst (dOp rGt (dCB rLen (dCons (dVar 1) dNil)) (dC (.int 0)))))
  (dDrop (dApp (dVar 2) (dCons (dCB rTup (dCons (dOp rIxD (dVar 1) (dCall sp_law_take_65a1 (dCons (dVar 0) (dCons (dCB rLen (dCons (dVar 1) dNil)) dNil)))) (dCons (dC (.int 1)) dNil))) dNil)))
  dNext)
  (dRet (dCB rTupOf (dCons (dVar 2) dNil))))))
theorem rd_law_terms_5923 (ds M Q E) (h : sp_law_terms_5923 ds M Q E) : w_law_terms_5923 { nx := fun _ M' => Q .non M', rt := Q } (startD 4 ds) M := by
  obtain ⟨st, b, ns, rfl, hL, hb, sn, hq⟩ := h
  refine ⟨by show 0 ≤ sizeLine; decide, fun p hp => ?_⟩
  have np := hL.ne hp
  refine ⟨rfl, ?_⟩
  refine dLoop_ind (fun rest δ M5 => ∃ (l : List Str) (t : List (Str × Int)) (a3 : Option D), rest = l.map D.str ∧ (∀ x, x ∈ l → SO x) ∧ l.length ≤ 13 ∧ M5 p = some (.lst (t.map trmD)) ∧ TmOk t ∧ t.length ≤ 4 ∧ Lw st (b + 2 * (13 - l.length)) M5 ∧ KpX st M M5 ∧ δ = [some (.ref st), some (.lst (ns.map D.str)), some (.ref p), a3]) ?_ ?_ _ _ _
    ⟨menuN, [], none, rfl, menu_so, by decide, mput_same, (fun x h => nomatch h), by decide, hL.at_ (mput_ne np.symm), KpX.new hp, rfl⟩
  · rintro d0 ys δ M5 K hK ⟨l, t, a3, e, sl, hl, hM5, ht, h4, hL5, kp, rfl⟩
    cases l with
    | nil => cases e
    | cons n l =>
      injection e with e1 e2
      subst e1; subst e2
      rw [List.length_cons] at hl
      rw [List.length_cons] at hL5
      have sn0 := sl n List.mem_cons_self
      refine ⟨trivial, _, rfl, _, rfl, _, rfl, sn0, pl_strs sn, mS ⟨_, rfl, ite_d (fun hin => ?_) fun hin => ?_⟩⟩
      · refine ⟨_, rfl, st, _, 3, rfl, hL5, by omega, by decide, fun x M6 hx0 hx1 hL6 hO6 => ⟨trivial, _, rfl, ite_d (fun hx => ?_) fun hx => ?_⟩⟩
        · have hM6 : M6 p = some (.lst (t.map trmD)) := (hO6 p np).trans hM5
          refine ⟨_, rfl, _, t.length, rfl, ⟨_, hM6, by rw [List.length_map]⟩, trivial, _, rfl, ite_d (fun hx => ?_) fun hx => ?_⟩
          · refine ⟨_, rfl, ⟨p, _, rfl, hM6⟩, _, rfl, by show 8 ≤ sizeLine; decide, _, rfl, st, _, 8, rfl, hL6, by omega, by decide, fun c M7 hc0 hc1 hL7 hO7 => ?_⟩
            obtain ⟨z, hz, ez⟩ := at_map D.int (xs := [1, -1, -1, 1, 2, -3, 9, -9]) hc0 hc1
            have hM7 : M7 p = some (.lst (t.map trmD)) := (hO7 p np).trans hM6
            refine ⟨c, rfl, _, ez, by show 2 ≤ sizeLine; decide, p, _, _, rfl, rfl, hM7, ?_, ?_⟩
            · rw [List.length_map]; exact sz16lt (by omega)
            refine hK _ _ ⟨l, t ++ [(n, z)], _, rfl, fun x hx => sl x (List.mem_cons_of_mem _ hx), by omega, ?_, fun x hx => ?_, ?_, (hL7.at_ (mput_ne np.symm)).mono (by omega), ?_, rfl⟩
            · rw [mput_same, List.map_append]; rfl
            · rcases List.mem_append.mp hx with h | h
              · exact ht x h
              · rw [List.mem_singleton.mp h]; exact sn0
            · rw [List.length_append, List.length_singleton]; omega
            · intro a o na ea
              have nap : a ≠ p := fun z => by rw [z, hp] at ea; cases ea
              rw [mput_ne nap]
              exact ((kp.trans (KpX.off hO6)).trans (KpX.off hO7)) a o na ea
          · exact hK _ _ ⟨l, t, _, rfl, fun x hx => sl x (List.mem_cons_of_mem _ hx), by omega, hM6, ht, h4, hL6.mono (by omega), kp.trans (KpX.off hO6), rfl⟩
        · exact hK _ _ ⟨l, t, _, rfl, fun x hx => sl x (List.mem_cons_of_mem _ hx), by omega, (hO6 p np).trans hM5, ht, h4, hL6.mono (by omega), kp.trans (KpX.off hO6), rfl⟩
      · exact hK _ _ ⟨l, t, _, rfl, fun x hx => sl x (List.mem_cons_of_mem _ hx), by omega, hM5, ht, h4, hL5.mono (by omega), kp, rfl⟩
  · rintro δ M5 ⟨l, t, a3, e, sl, hl, hM5, ht, h4, hL5, kp, rfl⟩
    cases l with
    | cons x t => cases e
    | nil =>
      refine ⟨trivial, _, rfl, _, t.length, rfl, ⟨_, hM5, by rw [List.length_map]⟩, .inl ⟨rfl, rfl, eI ⟨_, rfl, ite_d (fun h0 => ?_) fun h0 => ?_⟩⟩⟩
      · refine ⟨_, rfl, _, ns.length, rfl, by show _ = (ns.map D.str).length; rw [List.length_map], trivial, _, rfl, ite_d (fun hn => ?_) fun hn => ?_⟩
        · refine ⟨_, rfl, ⟨p, _, rfl, hM5⟩, _, rfl, _, rfl, _, rfl, _, ns.length, rfl, by show _ = (ns.map D.str).length; rw [List.length_map], st, _, (ns.length : Int), rfl, hL5, by omega, by omega, fun c M7 hc0 hc1 hL7 hO7 => ?_⟩
          obtain ⟨z, hz, ez⟩ := at_map D.str (xs := ns) hc0 hc1
          have hM7 : M7 p = some (.lst (t.map trmD)) := (hO7 p np).trans hM5
          refine ⟨c, rfl, _, ez, by show 2 ≤ sizeLine; decide, p, _, _, rfl, rfl, hM7, ?_, ?_⟩
          · rw [List.length_map]; exact sz16lt (by omega)
          refine ⟨_, rfl, .inr (.inr ⟨p, _, rfl, mput_same, ?_⟩)⟩
          have := hq (t ++ [(z, 1)]) (mput M7 p (.lst (t.map trmD ++ [trmD (z, 1)]))) (fun x hx => ?_) ?_ ((hL7.at_ (mput_ne np.symm)).mono (by simp only [List.length_nil]; omega)) ?_
          · rw [show trmsD (t ++ [(z, 1)]) = .tup (t.map trmD ++ [trmD (z, 1)]) by unfold trmsD; rw [List.map_append]; rfl] at this
            exact this
          · rcases List.mem_append.mp hx with h | h
            · exact ht x h
            · rw [List.mem_singleton.mp h]; exact sn z hz
          · rw [List.length_append, List.length_singleton]; omega
          · intro a o na ea
            have nap : a ≠ p := fun z => by rw [z, hp] at ea; cases ea
            rw [mput_ne nap]
            exact (kp.trans (KpX.off hO7)) a o na ea
        · exact ⟨_, rfl, .inr (.inr ⟨p, _, rfl, hM5, hq t M5 ht (by omega) (hL5.mono (by simp only [List.length_nil]; omega)) kp⟩)⟩
      · exact ⟨_, rfl, .inr (.inr ⟨p, _, rfl, hM5, hq t M5 ht (by omega) (hL5.mono (by simp only [List.length_nil]; omega)) kp⟩)⟩
def sp_law_common : DSp := fun ds M Q _ => ∃ a b : Int, ds = [.int a, .int b] ∧ 0 ≤ a ∧ 0 ≤ b ∧ Builtin.Int.intBits b < 1000000000 ∧ Q (.int ((Nat.gcd a.natAbs b.natAbs : Nat) : Int)) M
def w_law_common : DSt :=
  (dSeq (dFor (dRng1 (dCons (dOp rAddP (dOp rMulI (dC (.int 2)) (dBits (dVar 1))) (dC (.int 3))) dNil)) (gNm 2)
  (dSeq (dIf (dTst (dOp rEqP (dVar 1) (dC (.int 0))))
  dBreak
  dNext)
  (dSeq (dSet 3 (dOp rMod (dCB rInt (dCons (dVar 0) dNil)) (dVar 1)))
  (dSeq (dSet 0 (dVar 1))
  (dSet 1 (dVar 3))))))
  (dRet (dVar 0)))
theorem rd_law_common (ds M Q E) (h : sp_law_common ds M Q E) : w_law_common { nx := fun _ M' => Q .non M', rt := Q } (startD 4 ds) M := by
  obtain ⟨a, b, rfl, ha, hb, hbits, hq⟩ := h
  have hlen : (rngD 0 (2 * (Builtin.Int.intBits b : Nat) + 3 : Int)).length = 2 * Builtin.Int.intBits b + 3 := by unfold rngD; rw [List.length_map, List.length_range]; omega
  refine ⟨_, rfl, b, rfl, mulL (by decide) (by decide), _, rfl, by omega, ?_⟩
  refine dLoop_ind (fun rest δ M1 => ∃ (x y : Int) (a2 a3 : Option D), δ = [some (.int x), some (.int y), a2, a3] ∧ M1 = M ∧ 0 ≤ x ∧ 0 ≤ y ∧ Nat.gcd x.natAbs y.natAbs = Nat.gcd a.natAbs b.natAbs ∧ Fuel rest.length x y) ?_ ?_ _ _ _
    ⟨a, b, none, none, rfl, rfl, ha, hb, rfl, .inl ⟨Builtin.Int.intBits b, ?_, ?_⟩⟩
  · rintro k ks δ M1 K hK ⟨x, y, a2, a3, rfl, rfl, hx, hy, hg, hf⟩
    refine ⟨trivial, ⟨_, rfl, .inl ⟨rfl, rfl, fun t ht => ⟨t, rfl, ite_b (fun h1 => ?_) (fun h1 => ?_)⟩⟩⟩⟩
    · have e := ht.mp h1
      injection e with e
      subst e
      refine ⟨_, rfl, ?_⟩
      rw [← hg] at hq
      have : ((Nat.gcd x.natAbs (0 : Int).natAbs : Nat) : Int) = x := by simp; omega
      rw [this] at hq
      exact hq
    · have hy0 : y ≠ 0 := fun e => by rw [ht.mpr (by rw [e])] at h1; cases h1
      have hyp : 0 < y := by omega
      refine ⟨_, rfl, .inl ⟨x, rfl, _, rfl, hy0, _, rfl, _, rfl, ?_⟩⟩
      refine hK _ _ ⟨y, x % y, _, _, by rw [← fmod_pos hyp]; rfl, rfl, hy, Int.emod_nonneg _ hy0, by rw [gcd_step hx hy]; exact hg, fuel_step hyp hf⟩
  · rintro δ M1 ⟨x, y, a2, a3, rfl, rfl, hx, hy, hg, hf⟩
    obtain rfl := fuel_end hy hf
    refine ⟨trivial, _, rfl, ?_⟩
    rw [← hg] at hq
    have : ((Nat.gcd x.natAbs (0 : Int).natAbs : Nat) : Int) = x := by simp; omega
    rw [this] at hq
    exact hq
  · have := (intBits_le_iff (x := b)).mp (Nat.le_refl _)
    have e : (b.natAbs : Int) < ((2 ^ Builtin.Int.intBits b : Nat) : Int) := Int.ofNat_lt.mpr this
    rw [Int.natCast_pow] at e
    have : (b.natAbs : Int) = b := by omega
    rw [this] at e
    exact e
  · rw [hlen]; omega
def sp_law_pair_e2e7 : DSp := fun ds M Q _ => ∃ a b : Int, ds = [.int a, .int b] ∧ 0 < b ∧ b.natAbs < 2 ^ 8192 ∧ Q (pairD (Rat.divInt a b)) M
def w_law_pair_e2e7 : DSt :=
  (dSeq (dSet 2 (dCall sp_law_common (dCons (dCB rAbsI (dCons (dVar 0) dNil)) (dCons (dVar 1) dNil))))
  (dRet (dCB rTup (dCons (dOp rFdiv (dVar 0) (dVar 2)) (dCons (dOp rFdiv (dVar 1) (dVar 2)) dNil)))))
theorem rd_law_pair_e2e7 (ds M Q E) (h : sp_law_pair_e2e7 ds M Q E) : w_law_pair_e2e7 { nx := fun _ M' => Q .non M', rt := Q } (startD 3 ds) M := by
  obtain ⟨a, b, rfl, hb, hz, hq⟩ := h
  have hbn : b ≠ 0 := by omega
  have hab : (if a < 0 then -a else a) = (a.natAbs : Int) := by split <;> omega
  have cm : comm a b = ((Nat.gcd a.natAbs b.natAbs : Nat) : Int) := if_neg (by omega)
  have cf : ∀ x : Int, CFd x (comm a b) := fun x => ⟨comm_ne hbn, by
    have h1 : (comm a b).natAbs < 2 ^ 8192 := Nat.lt_of_le_of_lt (comm_le hbn) hz
    have h2 : (comm a b).natAbs ≠ 0 := by have := comm_ne (a := a) hbn; omega
    exact Nat.lt_of_lt_of_le ((Nat.log2_lt h2).mpr h1) (by decide)⟩
  refine ⟨_, rfl, a, rfl, _, rfl, (a.natAbs : Int), b, by rw [hab], by omega, by omega, ?_, ?_⟩
  · exact Nat.lt_of_le_of_lt (intBits_le_iff.mpr hz) (by decide)
  · rw [Int.natAbs_natCast, ← cm]
    refine ⟨_, rfl, _, rfl, cf a, _, rfl, _, rfl, cf b, sz16 (show 2 ≤ 1000000 by decide), ?_⟩
    show Q (.tup [.int (a.fdiv (comm a b)), .int (b.fdiv (comm a b))]) M
    rw [init_num hbn, init_den hbn]
    exact hq
def sp_law_weight_f3c6 : DSp := fun ds M Q _ => ∃ (st : Addr) (b : Nat), ds = [.ref st] ∧ Lw st b M ∧ b ≤ 1000000 ∧ ∀ (q : Rat) M', Lw st (b + 2) M' → Off st M M' → Q (pairD q) M'
def w_law_weight_f3c6 : DSt :=
  (dRet (dCall sp_law_pair_e2e7 (dCons (dOp rAddP (dC (.int 1)) (dCall sp_law_take_65a1 (dCons (dVar 0) (dCons (dC (.int 6)) dNil)))) (dCons (dOp rAddP (dC (.int 1)) (dCall sp_law_take_65a1 (dCons (dVar 0) (dCons (dC (.int 3)) dNil)))) dNil))))
theorem rd_law_weight_f3c6 (ds M Q E) (h : sp_law_weight_f3c6 ds M Q E) : w_law_weight_f3c6 { nx := fun _ M' => Q .non M', rt := Q } (startD 1 ds) M := by
  obtain ⟨st, b, rfl, hL, hb, hq⟩ := h
  refine take_at rfl hL (by decide) (by omega) fun x M1 hx0 hx1 hL1 hO1 => ?_
  refine take_at rfl hL1 (by decide) (by omega) fun y M2 hy0 hy1 hL2 hO2 => ⟨1 + x, 1 + y, rfl, by omega, Nat.lt_of_lt_of_le (show (1 + y).natAbs < 2 ^ 4 by omega) (Nat.pow_le_pow_right (by decide) (by decide)), hq _ _ hL2 (hO1.trans hO2)⟩
def sp_law_number_d14e : DSp := fun ds M Q _ => ∃ (st : Addr) (b : Nat), ds = [.ref st] ∧ Lw st b M ∧ b ≤ 1000000 ∧ ∀ (q : Rat) M', Bt 30 q → Lw st (b + 4) M' → Off st M M' → Q (pairD q) M'
theorem pw_le {x : Int} (n : Nat) (h0 : 0 ≤ x) (h1 : x < 1000) : (x ^ n).natAbs ≤ 1000 ^ n := by
  rw [Int.natAbs_pow]
  exact Nat.pow_le_pow_left (by omega) n
theorem pwc {x e : Int} (h0 : 0 ≤ x) (h1 : x < 1000) (h2 : 0 ≤ e) (h3 : e ≤ 64) : CPow x e := ⟨h2, by omega, Nat.lt_of_lt_of_le (show x.natAbs < 1000 by omega) (by decide)⟩
theorem pw_nn (x : Int) (n : Nat) (h : 0 ≤ x) : 0 ≤ x ^ n := Int.pow_nonneg h
theorem pw1 {z : Int} (h0 : 0 ≤ z) (h1 : z < 1000) : (1 + z ^ 2).natAbs ≤ 1000001 := by
  have := pw_le 2 h0 h1
  have e : (1000 : Nat) ^ 2 = 1000000 := by decide
  omega
theorem pw2 {x y : Int} (h0 : 0 ≤ x) (h1 : x < 1000) (h2 : 0 ≤ y) (h3 : y < 1000) : (x ^ 3 - y ^ 2).natAbs ≤ 2 ^ 30 := by
  have a := pw_le 3 h0 h1
  have b := pw_le 2 h2 h3
  have e : (1000 : Nat) ^ 2 = 1000000 := by decide
  have e2 : (1000 : Nat) ^ 3 = 1000000000 := by decide
  have e3 : (2 : Nat) ^ 30 = 1073741824 := by decide
  omega
def w_law_number_d14e : DSt :=
  (dSeq (dIf (dTst (dOp rEqP (dCall sp_law_take_65a1 (dCons (dVar 0) (dCons (dC (.int 9)) dNil))) (dC (.int 0))))
  (dRet (dCall sp_law_pair_e2e7 (dCons (dOp rSubI (dOp rPow (dCall sp_law_take_65a1 (dCons (dVar 0) (dCons (dC (.int 1000)) dNil))) (dC (.int 3))) (dOp rPow (dCall sp_law_take_65a1 (dCons (dVar 0) (dCons (dC (.int 1000)) dNil))) (dC (.int 2)))) (dCons (dOp rAddP (dC (.int 1)) (dOp rPow (dCall sp_law_take_65a1 (dCons (dVar 0) (dCons (dC (.int 1000)) dNil))) (dC (.int 2)))) dNil))))
  dNext)
  (dRet (dCall sp_law_pair_e2e7 (dCons (dOp rSubI (dCall sp_law_take_65a1 (dCons (dVar 0) (dCons (dC (.int 13)) dNil))) (dC (.int 6))) (dCons (dOp rAddP (dC (.int 1)) (dCall sp_law_take_65a1 (dCons (dVar 0) (dCons (dC (.int 4)) dNil)))) dNil)))))
theorem rd_law_number_d14e (ds M Q E) (h : sp_law_number_d14e ds M Q E) : w_law_number_d14e { nx := fun _ M' => Q .non M', rt := Q } (startD 1 ds) M := by
  obtain ⟨st, b, rfl, hL, hb, hq⟩ := h
  have big : ∀ z : Int, z.natAbs ≤ 2 ^ 30 → z.natAbs < 2 ^ 8192 := fun z h => Nat.lt_of_le_of_lt h (Nat.pow_lt_pow_right (by decide) (by decide))
  refine take_at rfl hL (by decide) (by omega) fun n M1 h0 h9 hL1 hO1 => .inl ⟨rfl, rfl, fun t ht => ⟨t, rfl, ite_b (fun h1 => ?_) (fun h1 => ?_)⟩⟩
  · refine take_at rfl hL1 (by decide) (by omega) fun x M2 hx0 hx1 hL2 hO2 => ⟨pwc hx0 hx1 (by decide) (by decide), take_at rfl hL2 (by decide) (by omega) fun y M3 hy0 hy1 hL3 hO3 => ⟨pwc hy0 hy1 (by decide) (by decide), trivial, take_at rfl hL3 (by decide) (by omega) fun z M4 hz0 hz1 hL4 hO4 => ⟨pwc hz0 hz1 (by decide) (by decide), x ^ 3 - y ^ 2, 1 + z ^ 2, rfl, ?_, ?_, ?_⟩⟩⟩
    · have := pw_nn z 2 hz0; omega
    · exact big _ (Nat.le_trans (pw1 hz0 hz1) (by decide))
    · exact hq _ _ (bt_div (pw2 hx0 hx1 hy0 hy1) (Nat.le_trans (pw1 hz0 hz1) (by decide))) hL4 (((hO1.trans hO2).trans hO3).trans hO4)
  · refine take_at rfl hL1 (by decide) (by omega) fun x M2 hx0 hx1 hL2 hO2 => ⟨trivial, take_at rfl hL2 (by decide) (by omega) fun y M3 hy0 hy1 hL3 hO3 => ⟨x - 6, 1 + y, rfl, by omega, big _ (Nat.le_trans (show (1 + y).natAbs ≤ 4 by omega) (by decide)), ?_⟩⟩
    refine hq _ _ (bt_div ?_ ?_) (hL3.mono (by omega)) ((hO1.trans hO2).trans hO3)
    · exact Nat.le_trans (show (x - 6).natAbs ≤ 6 by omega) (by decide)
    · exact Nat.le_trans (show (1 + y).natAbs ≤ 4 by omega) (by decide)
theorem num_at {i : Nat} {δ : DS0} {st : Addr} {b : Nat} {M : Mem} {Q : DK} (hi : δ[i]? = some (some (.ref st))) (hL : Lw st b M) (hb : b ≤ 1000000) (k : ∀ (q : Rat) M', Bt 30 q → Lw st (b + 4) M' → Off st M M' → Q (pairD q) M') : dCall sp_law_number_d14e (dCons (dVar i) dNil) δ M Q := ⟨_, hi, st, b, rfl, hL, hb, k⟩
def sp_law_deed : DSp := fun ds M Q _ => ∃ (st : Addr) (b : Nat) (ns ms : List Str), ds = [.ref st, .lst (ns.map D.str), .lst (ms.map D.str)] ∧ Lw st b M ∧ b ≤ 900000 ∧ (∀ x, x ∈ ns → SO x) ∧ (∀ x, x ∈ ms → SO x) ∧ ∀ (d : Dd) M', DdOk d → Lw st (b + 60) M' → KpX st M M' → Q (ddD d) M'
def w_law_deed : DSt :=
  (dSeq (dSet 3 (dCB rLstV (dCons (dC (.str "point")) (dCons (dC (.str "reading")) (dCons (dC (.str "reading")) (dCons (dC (.str "reading")) (dCons (dC (.str "approximation")) (dCons (dC (.str "value")) (dCons (dC (.str "weight")) (dCons (dC (.str "withdraw")) (dCons (dC (.str "remove")) (dCons (dC (.str "point")) dNil))))))))))))
  (dSeq (dSet 4 (dOp rIxD (dVar 3) (dCall sp_law_take_65a1 (dCons (dVar 0) (dCons (dC (.int 10)) dNil)))))
  (dSeq (dSet 5 (dOp rIxD (dCall sp_law_menu dNil) (dCall sp_law_take_65a1 (dCons (dVar 0) (dCons (dC (.int 13)) dNil)))))
  (dSeq (dIf (dAnd (dTst (dOp rGt (dCB rLen (dCons (dVar 1) dNil)) (dC (.int 0)))) (dAnd (dTst (dOp rGt (dCall sp_law_take_65a1 (dCons (dVar 0) (dCons (dC (.int 3)) dNil))) (dC (.int 0)))) (dTst (dOp rNeP (dVar 4) (dC (.str "point"))))))
  (dSet 5 (dOp rIxD (dVar 1) (dCall sp_law_take_65a1 (dCons (dVar 0) (dCons (dCB rLen (dCons (dVar 1) dNil)) dNil)))))
  dNext)
  (dSeq (dSet 6 (dOp rIxD (dCB rLstV (dCons (dC (.str "r")) (dCons (dC (.str "s")) (dCons (dC (.str "t2")) (dCons (dC (.str "u")) (dCons (dC (.str "A")) (dCons (dC (.str "w")) (dCons (dC (.str "v7")) dNil)))))))) (dCall sp_law_take_65a1 (dCons (dVar 0) (dCons (dC (.int 7)) dNil)))))
  (dSeq (dIf (dAnd (dTst (dOp rGt (dCB rLen (dCons (dVar 2) dNil)) (dC (.int 0)))) (dAnd (dTst (dOp rGt (dCall sp_law_take_65a1 (dCons (dVar 0) (dCons (dC (.int 3)) dNil))) (dC (.int 0)))) (dTst (dOp rNeP (dVar 4) (dC (.str "reading"))))))
  (dSet 6 (dOp rIxD (dVar 2) (dCall sp_law_take_65a1 (dCons (dVar 0) (dCons (dCB rLen (dCons (dVar 2) dNil)) dNil)))))
  dNext)
  (dSeq (dSet 7 (dCall sp_law_number_d14e (dCons (dVar 0) dNil)))
  (dSeq (dSet 8 (dCall sp_law_weight_f3c6 (dCons (dVar 0) dNil)))
  (dSeq (dIf (dTst (dOp rEqP (dCall sp_law_take_65a1 (dCons (dVar 0) (dCons (dC (.int 9)) dNil))) (dC (.int 0))))
  (dSet 8 (dCB rTup (dCons (dOp rSubI (dC (.int 0)) (dCall sp_law_take_65a1 (dCons (dVar 0) (dCons (dC (.int 3)) dNil)))) (dCons (dC (.int 1)) dNil))))
  dNext)
  (dSeq (dIf (dTst (dOp rEqP (dVar 4) (dC (.str "reading"))))
  (dSeq (dSet 9 (dCall sp_law_terms_5923 (dCons (dVar 0) (dCons (dVar 1) dNil))))
  (dSeq (dIf (dTst (dOp rEqP (dCall sp_law_take_65a1 (dCons (dVar 0) (dCons (dC (.int 6)) dNil))) (dC (.int 0))))
  (dSet 9 (dCall sp_law_spoilt (dCons (dVar 0) (dCons (dVar 9) dNil))))
  dNext)
  (dRet (dCB rTup (dCons (dVar 4) (dCons (dVar 6) (dCons (dVar 9) (dCons (dVar 7) (dCons (dVar 8) dNil)))))))))
  dNext)
  (dSeq (dIf (dOr (dTst (dOp rEqP (dVar 4) (dC (.str "point")))) (dTst (dOp rEqP (dVar 4) (dC (.str "approximation")))))
  (dRet (dCB rTup (dCons (dVar 4) (dCons (dVar 5) (dCons (dVar 7) dNil)))))
  dNext)
  (dSeq (dIf (dTst (dOp rEqP (dVar 4) (dC (.str "value"))))
  (dRet (dCB rTup (dCons (dVar 4) (dCons (dVar 6) (dCons (dVar 7) dNil)))))
  dNext)
  (dSeq (dIf (dTst (dOp rEqP (dVar 4) (dC (.str "weight"))))
  (dRet (dCB rTup (dCons (dVar 4) (dCons (dVar 6) (dCons (dVar 8) dNil)))))
  dNext)
  (dSeq (dIf (dTst (dOp rEqP (dVar 4) (dC (.str "withdraw"))))
  (dRet (dCB rTup (dCons (dVar 4) (dCons (dVar 6) dNil))))
  dNext)
  (dRet (dCB rTup (dCons (dVar 4) (dCons (dVar 5) dNil))))))))))))))))))
def wordsN : List Str := ["point", "reading", "reading", "reading", "approximation", "value", "weight", "withdraw", "remove", "point"]
def marksN : List Str := ["r", "s", "t2", "u", "A", "w", "v7"]
theorem words_so : ∀ x, x ∈ wordsN → SO x := by
  have : (wordsN.all fun x => PyData.strOk x) = true := by decide +kernel
  exact fun x hx => List.all_eq_true.mp this x hx
theorem marks_so : ∀ x, x ∈ marksN → SO x := by
  have : (marksN.all fun x => PyData.strOk x) = true := by decide +kernel
  exact fun x hx => List.all_eq_true.mp this x hx
theorem words_last {w : Str} (h : w ∈ wordsN) (h1 : w ≠ "reading") (h2 : w ≠ "point") (h3 : w ≠ "approximation") (h4 : w ≠ "value") (h5 : w ≠ "weight") (h6 : w ≠ "withdraw") : w = "remove" := by
  simp only [wordsN, List.mem_cons, List.not_mem_nil, or_false] at h
  rcases h with h | h | h | h | h | h | h | h | h | h
  all_goals first | exact h | exact absurd h (by assumption)
theorem pick_name {st : Addr} {b : Nat} {i j : Nat} {c : Str} {w : Str} {ns : List Str} {δ : DS0} {M : Mem} {De : DEnds} {n0 : Str} (h0 : δ[0]? = some (some (.ref st))) (hi : δ[i]? = some (some (.lst (ns.map D.str)))) (h4 : δ[4]? = some (some (.str w))) (hj : δ[j]? = some (some (.str n0))) (hL : Lw st b M) (hb : b ≤ 1000000) (sw : SO w) (sc : SO c) (s0 : SO n0) (sn : ∀ x, x ∈ ns → SO x)
    (k : ∀ (n : Str) M', SO n → Lw st (b + 2) M' → Off st M M' → De.nx (δ.set j (some (.str n))) M') (hd : δ.set j (some (.str n0)) = δ) :
    dIf (dAnd (dTst (dOp rGt (dCB rLen (dCons (dVar i) dNil)) (dC (.int 0)))) (dAnd (dTst (dOp rGt (dCall sp_law_take_65a1 (dCons (dVar 0) (dCons (dC (.int 3)) dNil))) (dC (.int 0)))) (dTst (dOp rNeP (dVar 4) (dC (.str c))))))
      (dSet j (dOp rIxD (dVar i) (dCall sp_law_take_65a1 (dCons (dVar 0) (dCons (dCB rLen (dCons (dVar i) dNil)) dNil))))) dNext De δ M := by
  have skip : ∀ M', Lw st (b + 1) M' → Off st M M' → De.nx δ M' := fun M' l o => by
    have := k n0 M' s0 (l.mono (by omega)) o
    rw [hd] at this; exact this
  refine ⟨_, hi, _, ns.length, rfl, by show _ = (ns.map D.str).length; rw [List.length_map], trivial, _, rfl, ite_d (fun hn => ?_) fun hn => skip M (hL.mono (by omega)) Off.refl⟩
  refine ⟨_, h0, st, b, 3, rfl, hL, by omega, by decide, fun x M1 hx0 hx1 hL1 hO1 => ⟨trivial, _, rfl, ite_d (fun hx => ?_) fun hx => skip M1 hL1 hO1⟩⟩
  refine ⟨_, h4, .inl ⟨sw, sc, nS ⟨_, rfl, ?_⟩⟩⟩
  by_cases hw : w = c
  · rw [decide_eq_true hw]; exact skip M1 hL1 hO1
  · rw [decide_eq_false hw]
    refine ⟨_, hi, _, h0, _, hi, _, ns.length, rfl, by show _ = (ns.map D.str).length; rw [List.length_map], st, _, (ns.length : Int), rfl, hL1, by omega, by omega, fun y M2 hy0 hy1 hL2 hO2 => ?_⟩
    obtain ⟨z, hz, ez⟩ := at_map D.str (xs := ns) hy0 hy1
    exact ⟨y, rfl, _, ez, k z M2 (sn z hz) hL2 (hO1.trans hO2)⟩
theorem rd_law_deed (ds M Q E) (h : sp_law_deed ds M Q E) : w_law_deed { nx := fun _ M' => Q .non M', rt := Q } (startD 10 ds) M := by
  obtain ⟨st, b, ns, ms, rfl, hL, hb, sn, sm, hq⟩ := h
  have l2 : 2 ≤ sizeLine := by decide
  have l3 : 3 ≤ sizeLine := by decide
  have l5 : 5 ≤ sizeLine := by decide
  refine ⟨by show 10 ≤ sizeLine; decide, _, rfl, _, rfl, st, b, 10, rfl, hL, by omega, by decide, fun k M1 hk0 hk1 hL1 hO1 => ?_⟩
  obtain ⟨w, hw, ew⟩ := at_map D.str (xs := wordsN) hk0 hk1
  have sw := words_so w hw
  refine ⟨k, rfl, _, ew, rfl, _, rfl, st, _, 13, rfl, hL1, by omega, by decide, fun k2 M2 hk20 hk21 hL2 hO2 => ?_⟩
  obtain ⟨n0, hn0, en0⟩ := at_map D.str (xs := menuN) hk20 hk21
  refine ⟨k2, rfl, _, en0, ?_⟩
  refine pick_name (st := st) (i := 1) (ns := ns) (n0 := n0) rfl rfl rfl rfl hL2 (by omega) sw (by show PyData.strOk _ = true; decide +kernel) (menu_so n0 hn0) sn (fun n M3 sn0 hL3 hO3 => ?_) rfl
  refine ⟨by show 7 ≤ sizeLine; decide, _, rfl, st, _, 7, rfl, hL3, by omega, by decide, fun k3 M4 hk30 hk31 hL4 hO4 => ?_⟩
  obtain ⟨m0, hm0, em0⟩ := at_map D.str (xs := marksN) hk30 hk31
  refine ⟨k3, rfl, _, em0, ?_⟩
  refine pick_name (st := st) (i := 2) (ns := ms) (n0 := m0) rfl rfl rfl rfl hL4 (by omega) sw (by show PyData.strOk _ = true; decide +kernel) (marks_so m0 hm0) sm (fun m M5 sm0 hL5 hO5 => ?_) rfl
  refine ⟨_, rfl, st, _, rfl, hL5, by omega, fun v M6 _ hL6 hO6 => ?_⟩
  refine ⟨_, rfl, st, _, rfl, hL6, by omega, fun u M7 hL7 hO7 => ?_⟩
  have kp7 : Off st M M7 := (((((hO1.trans hO2).trans hO3).trans hO4).trans hO5).trans hO6).trans hO7
  refine ⟨_, rfl, st, _, 9, rfl, hL7, by omega, by decide, fun x M8 hx0 hx1 hL8 hO8 => .inl ⟨rfl, rfl, eI ⟨_, rfl, ?_⟩⟩⟩
  have tail : ∀ (u : Rat) (M9 : Mem), Lw st (b + 22) M9 → Off st M M9 → (dSeq (dIf (dTst (dOp rEqP (dVar 4) (dC (.str "reading"))))
      (dSeq (dSet 9 (dCall sp_law_terms_5923 (dCons (dVar 0) (dCons (dVar 1) dNil))))
      (dSeq (dIf (dTst (dOp rEqP (dCall sp_law_take_65a1 (dCons (dVar 0) (dCons (dC (.int 6)) dNil))) (dC (.int 0))))
      (dSet 9 (dCall sp_law_spoilt (dCons (dVar 0) (dCons (dVar 9) dNil))))
      dNext)
      (dRet (dCB rTup (dCons (dVar 4) (dCons (dVar 6) (dCons (dVar 9) (dCons (dVar 7) (dCons (dVar 8) dNil)))))))))
      dNext)
      (dSeq (dIf (dOr (dTst (dOp rEqP (dVar 4) (dC (.str "point")))) (dTst (dOp rEqP (dVar 4) (dC (.str "approximation")))))
      (dRet (dCB rTup (dCons (dVar 4) (dCons (dVar 5) (dCons (dVar 7) dNil)))))
      dNext)
      (dSeq (dIf (dTst (dOp rEqP (dVar 4) (dC (.str "value"))))
      (dRet (dCB rTup (dCons (dVar 4) (dCons (dVar 6) (dCons (dVar 7) dNil)))))
      dNext)
      (dSeq (dIf (dTst (dOp rEqP (dVar 4) (dC (.str "weight"))))
      (dRet (dCB rTup (dCons (dVar 4) (dCons (dVar 6) (dCons (dVar 8) dNil)))))
      dNext)
      (dSeq (dIf (dTst (dOp rEqP (dVar 4) (dC (.str "withdraw"))))
      (dRet (dCB rTup (dCons (dVar 4) (dCons (dVar 6) dNil))))
      dNext)
      (dRet (dCB rTup (dCons (dVar 4) (dCons (dVar 5) dNil))))))))) { nx := fun _ M' => Q .non M', rt := Q } [some (.ref st), some (.lst (ns.map D.str)), some (.lst (ms.map D.str)), some (.lst (wordsN.map D.str)), some (.str w), some (.str n), some (.str m), some (pairD v), some (pairD u), none] M9 := fun u M9 hL9 hO9 => by
    have kp := KpX.off hO9
    refine ⟨_, rfl, .inl ⟨sw, by show PyData.strOk _ = true; decide +kernel, eS ⟨_, rfl, ite_d (fun h => ?_) fun h1 => ?_⟩⟩⟩
    · subst h
      refine ⟨_, rfl, _, rfl, st, _, ns, rfl, hL9, by omega, sn, fun t M10 ht h5 hL10 kp10 => ?_⟩
      refine ⟨_, rfl, st, _, 6, rfl, hL10, by omega, by decide, fun y M11 hy0 hy1 hL11 hO11 => .inl ⟨rfl, rfl, eI ⟨_, rfl, ite_d (fun hy => ?_) fun hy => ?_⟩⟩⟩
      · refine ⟨_, rfl, _, rfl, st, _, t, rfl, hL11, by omega, ht, h5, fun t2 M12 ht2 h50 hL12 hO12 => ?_⟩
        exact ⟨_, rfl, _, rfl, _, rfl, _, rfl, _, rfl, l5, hq (.reading ⟨m, t2, v, u⟩) M12 ⟨sm0, ht2, by show t2.length ≤ 100; omega⟩ (hL12.mono (by omega)) (((kp.trans kp10).trans (KpX.off hO11)).trans (KpX.off hO12))⟩
      · exact ⟨_, rfl, _, rfl, _, rfl, _, rfl, _, rfl, l5, hq (.reading ⟨m, t, v, u⟩) M11 ⟨sm0, ht, by show t.length ≤ 100; omega⟩ (hL11.mono (by omega)) ((kp.trans kp10).trans (KpX.off hO11))⟩
    refine ⟨_, rfl, .inl ⟨sw, by show PyData.strOk _ = true; decide +kernel, eS ⟨_, rfl, ite_d (fun h => ?_) fun h2 => ?_⟩⟩⟩
    · subst h
      exact ite_t ⟨_, rfl, _, rfl, _, rfl, l3, hq (.point n v) M9 sn0 (hL9.mono (by omega)) kp⟩
    refine ⟨_, rfl, .inl ⟨sw, by show PyData.strOk _ = true; decide +kernel, eS ⟨_, rfl, ite_d (fun h => ?_) fun h3 => ?_⟩⟩⟩
    · subst h
      exact ⟨_, rfl, _, rfl, _, rfl, l3, hq (.appr n v) M9 sn0 (hL9.mono (by omega)) kp⟩
    refine ⟨_, rfl, .inl ⟨sw, by show PyData.strOk _ = true; decide +kernel, eS ⟨_, rfl, ite_d (fun h => ?_) fun h4 => ?_⟩⟩⟩
    · subst h
      exact ⟨_, rfl, _, rfl, _, rfl, l3, hq (.value m v) M9 sm0 (hL9.mono (by omega)) kp⟩
    refine ⟨_, rfl, .inl ⟨sw, by show PyData.strOk _ = true; decide +kernel, eS ⟨_, rfl, ite_d (fun h => ?_) fun h5 => ?_⟩⟩⟩
    · subst h
      exact ⟨_, rfl, _, rfl, _, rfl, l3, hq (.weight m u) M9 sm0 (hL9.mono (by omega)) kp⟩
    refine ⟨_, rfl, .inl ⟨sw, by show PyData.strOk _ = true; decide +kernel, eS ⟨_, rfl, ite_d (fun h => ?_) fun h6 => ?_⟩⟩⟩
    · subst h
      exact ⟨_, rfl, _, rfl, l2, hq (.withdraw m) M9 sm0 (hL9.mono (by omega)) kp⟩
    obtain rfl := words_last hw h1 h2 h3 h4 h5 h6
    exact ⟨_, rfl, _, rfl, l2, hq (.remove n) M9 sn0 (hL9.mono (by omega)) kp⟩
  refine ite_d (fun hx => ?_) fun hx => ?_
  · refine ⟨_, rfl, st, _, 3, rfl, hL8, by omega, by decide, fun y M9 hy0 hy1 hL9 hO9 => ⟨trivial, by show 2 ≤ sizeLine; decide, ?_⟩⟩
    exact tail (((0 - y : Int)) : Rat) M9 (hL9.mono (by omega)) ((kp7.trans hO8).trans hO9)
  · exact tail u M8 (hL8.mono (by omega)) (kp7.trans hO8)
def sp_law_row_is : DSp := fun ds M Q _ => ∃ (ns : List Str) (t : List (Str × Int)), ds = [.tup (ns.map fun n => D.rat ((coef t n : Int) : Rat)), .lst (ns.map D.str), trmsD t] ∧ ns.length ≤ 12 ∧ t.length ≤ 100 ∧ (∀ n, n ∈ ns → SO n) ∧ (∀ x, x ∈ t → SO x.1) ∧ (t.map Prod.fst).Nodup ∧ Q (.bl true) M
def w_law_row_is : DSt :=
  (dSeq (dIf (dOr (dNot (dTru (dCB rIsi (dCons (dVar 0) (dCons (dC (.ty "tuple")) dNil))))) (dTst (dOp rNeP (dCB rLen (dCons (dVar 0) dNil)) (dCB rLen (dCons (dVar 1) dNil)))))
  (dRet (dC (.bl false)))
  dNext)
  (dSeq (dFor (dRng1 (dCons (dCB rLen (dCons (dVar 1) dNil)) dNil)) (gNm 3)
  (dSeq (dSet 4 (dCB rSumD (dCons (dLc (dIt (dVar 2)) (gNm 5) (dTst (dOp rEqP (dOp rIxD (dVar 5) (dC (.int 0))) (dOp rIxD (dVar 1) (dVar 3)))) (dOp rIxD (dVar 5) (dC (.int 1))) [5]) dNil)))
  (dIf (dNot (dTru (dCall sp_law_is (dCons (dOp rIxD (dVar 0) (dVar 3)) (dCons (dCB rTup (dCons (dVar 4) (dCons (dC (.int 1)) dNil))) dNil)))))
  (dRet (dC (.bl false)))
  dNext)))
  (dRet (dC (.bl true)))))
theorem lc_coef {M : Mem} {Q : List D → Mem → Prop} {δ : DS0} {n : Str} {ns : List Str} {i : Nat} (hn : ns[i]? = some n) (sn : SO n) (h1 : ∀ z, (δ.set 5 (some z))[1]? = some (some (.lst (ns.map D.str)))) (h3 : ∀ z, (δ.set 5 (some z))[3]? = some (some (.int (i : Int)))) (hi : 5 < δ.length) : ∀ (l : List (Str × Int)) (acc : List D), (∀ x, x ∈ l → SO x.1) → acc.length + l.length ≤ sizeLine → Q (acc ++ ((l.filter fun r => decide (r.1 = n)).map Prod.snd).map D.int) M →
    dLcL always (gNm 5) (dTst (dOp rEqP (dOp rIxD (dVar 5) (dC (.int 0))) (dOp rIxD (dVar 1) (dVar 3)))) (dOp rIxD (dVar 5) (dC (.int 1))) δ (l.map trmD) acc M Q
  | [], acc, _, _, q => ⟨trivial, by simpa using q⟩
  | r :: l, acc, sl, hl, q => by
    rw [List.length_cons] at hl
    have e0 : (δ.set 5 (some (trmD r)))[5]? = some (some (trmD r)) := by rw [List.getElem?_set_self hi]
    have eat : atI (ns.map D.str) (i : Int) = some (.str n) := atI_nn (by omega) (by rw [Int.toNat_natCast, List.getElem?_map, hn]; rfl)
    refine ⟨trivial, by omega, _, e0, 0, rfl, _, rfl, _, h1 _, _, h3 _, (i : Int), rfl, _, eat, .inl ⟨sl r List.mem_cons_self, sn, eS ⟨_, rfl, ?_⟩⟩⟩
    rw [List.filter_cons] at q
    by_cases c : r.1 = n
    · rw [decide_eq_true c] at q ⊢
      refine ite_t ⟨_, e0, 1, rfl, _, rfl, lc_coef hn sn h1 h3 hi l _ (fun y hy => sl y (List.mem_cons_of_mem _ hy)) (by rw [List.length_append, List.length_singleton]; omega) ?_⟩
      rw [List.append_assoc]; exact q
    · rw [decide_eq_false c] at q ⊢
      exact ite_f (lc_coef hn sn h1 h3 hi l acc (fun y hy => sl y (List.mem_cons_of_mem _ hy)) (by omega) q)
theorem rd_law_row_is (ds M Q E) (h : sp_law_row_is ds M Q E) : w_law_row_is { nx := fun _ M' => Q .non M', rt := Q } (startD 6 ds) M := by
  obtain ⟨ns, t, rfl, hl, ht, sn, st, nd, hq⟩ := h
  refine ⟨_, rfl, _, "tuple", "tuple", true, rfl, rfl, by decide, true, rfl, ite_f ?_⟩
  refine ⟨_, rfl, _, ns.length, rfl, by show _ = (ns.map _).length; rw [List.length_map], _, rfl, _, ns.length, rfl, by show _ = (ns.map _).length; rw [List.length_map], .inl ⟨rfl, rfl, nI ⟨_, rfl, ?_⟩⟩⟩
  rw [decide_eq_true rfl]
  refine ite_f ⟨_, rfl, _, ns.length, rfl, by show _ = (ns.map _).length; rw [List.length_map], _, rfl, ⟨by omega, by omega⟩, ?_⟩
  rw [rngD_eq]
  refine dLoop_ind (fun rest δ M5 => M5 = M ∧ ∃ (k i : Nat) (a3 a4 : Option D), k + i = ns.length ∧ rest = ((List.range' i k).map fun (k : Nat) => D.int (k : Int)) ∧ δ = [some (.tup (ns.map fun n => D.rat ((coef t n : Int) : Rat))), some (.lst (ns.map D.str)), some (trmsD t), a3, a4, none]) ?_ ?_ _ _ _ ⟨rfl, ns.length, 0, none, none, by omega, rfl, rfl⟩
  · rintro d0 ys δ M5 K hK ⟨rfl, k, i, a3, a4, hki, e, rfl⟩
    cases k with
    | zero => cases e
    | succ k =>
      rw [List.range'_succ] at e
      injection e with e1 e2
      subst e1; subst e2
      have hlt : i < ns.length := by omega
      have hn : ns[i]? = some ns[i] := List.getElem?_eq_getElem hlt
      refine ⟨trivial, _, rfl, ?_⟩
      refine lc_coef hn (sn _ (List.getElem_mem hlt)) (fun z => rfl) (fun z => rfl) (by show 5 < 6; decide) t [] st (by show 0 + _ ≤ _; exact sz16 (by omega)) ?_
      rw [List.nil_append]
      refine ⟨_, rfl, ?_⟩
      rw [coef_sum nd]
      refine ⟨_, rfl, _, rfl, (i : Int), rfl, D.rat ((coef t ns[i] : Int) : Rat), atI_nn (by omega) (by rw [Int.toNat_natCast, List.getElem?_map, hn]; rfl), _, rfl, by show 2 ≤ sizeLine; decide, ((coef t ns[i] : Int) : Rat), ((coef t ns[i] : Int) : Rat), rfl, true, ?_, ite_f ?_⟩
      · show true = decide _; rw [decide_eq_true rfl]
      · exact hK _ _ ⟨rfl, k, i + 1, _, _, by omega, rfl, rfl⟩
  · rintro δ M5 ⟨rfl, k, i, a3, a4, hki, e, rfl⟩
    exact ⟨trivial, hq⟩
def rowQ (b : Bk) (r : Rdg) : D := .tup (b.pts.map fun n => D.rat ((coef r.terms n : Int) : Rat))
def sp_row_of (AD : Ad) : DSp := fun ds M Q _ => ∃ (p a1 a2 a3 : Addr) (b : Bk) (r : Rdg), ds = [.ref p, rdgD AD r] ∧ BkAt AD p a1 a2 a3 b M ∧ BkOk b ∧ fits r.terms = true ∧ ∀ M', KpA M M' → Q (rowQ b r) M'
def w_row_of (AD : Ad) : DSt :=
  (dSeq (dSet 2 (dCB rDictT (dCons (dFld (· = AD.rd) "terms" (dVar 1)) dNil)))
  (dRet (dCB rTupOf (dCons (dLc (dIt (dFld (· = AD.bk) "points" (dVar 0))) (gNm 3) dYes (dMk (dCons (dDGet2 (dVar 2) (dVar 3) (dC (.int 0))) dNil)) [3]) dNil))))
theorem rd_row_of (AD : Ad) (ds M Q E) (h : sp_row_of AD ds M Q E) : w_row_of AD { nx := fun _ M' => Q .non M', rt := Q } (startD 4 ds) M := by
  obtain ⟨p, a1, a2, a3, b, r, rfl, B, ok, fr, hq⟩ := h
  refine ⟨_, rfl, _, _, _, _, .inl rfl, rfl, rfl, r.terms.map (fun x => (x.1, D.int x.2)), by rw [trm_pairs], by rw [fst_pairs]; exact fits_nodup fr, fun d hd => ?_⟩
  rw [fst_pairs, snd_pairs]
  have npd : p ≠ d := fun e => by rw [← e, B.ins] at hd; cases hd
  have n1 : a1 ≠ d := fun e => by rw [← e, B.pts] at hd; cases hd
  have hM := fun o : MO => (mput_ne (M := M) (o := o) npd).trans B.ins
  have hP := fun o : MO => (mput_ne (M := M) (o := o) n1).trans B.pts
  refine ⟨_, rfl, _, _, _, _, .inr ⟨p, rfl, hM _⟩, rfl, rfl, _, hP _, ?_⟩
  refine lc_ofD (j := 3) D.str (fun n => D.rat ((coef r.terms n : Int) : Rat)) (fun _ => True) (hP _) (fun n K _ q => ?_) b.pts [] (fun _ _ => trivial) (by show 0 + _ ≤ _; have := ok.few; exact sz16 (by omega)) ?_
  · refine ⟨_, rfl, ⟨d, _, _, rfl, mput_same⟩, _, rfl, d, _, _, n, rfl, rfl, mput_same, ?_⟩
    have e : (getK (r.terms.map Prod.fst) ((r.terms.map Prod.snd).map D.int) n).getD (.int 0) = .int (coef r.terms n) := by
      rw [getK_map]
      unfold coef
      cases getK (r.terms.map Prod.fst) (r.terms.map Prod.snd) n <;> rfl
    rw [e]
    exact q
  · rw [List.nil_append]
    exact .inl ⟨_, rfl, hq _ (KpA.new hd)⟩
def sp_law_tape : DSp := fun ds M Q _ => ∃ ns : List Int, ds = [.scr (dInts ns)] ∧ ns.length ≤ 63 ∧ ∀ ts, TapeOk ts → Q (.lst (dInts ts)) M
def w_law_tape : DSt :=
  (dSeq (dSet 1 (dCB rLstR dNil))
  (dSeq (dFor (dIt (dVar 0)) (gNm 2)
  (dSeq (dSet 3 (dOp rMulI (dC (.int 2)) (dCB rInt (dCons (dVar 2) dNil))))
  (dSeq (dIf (dTst (dOp rLt (dVar 3) (dC (.int 0))))
  (dSet 3 (dOp rSubI (dUn rNeg (dC (.int 1))) (dVar 3)))
  dNext)
  (dIf (dTst (dOp rGe (dVar 3) (dOp rPow (dC (.int 10)) (dC (.int 18)))))
  (dFor (dRng1 (dCons (dC (.int 40)) dNil)) (gNm 4)
  (dIf (dTst (dOp rGt (dVar 3) (dC (.int 0))))
  (dSeq (dDrop (dApp (dVar 1) (dCons (dOp rMod (dCB rInt (dCons (dVar 3) dNil)) (dC (.int 1000))) dNil)))
  (dSet 3 (dOp rFdiv (dVar 3) (dC (.int 1000)))))
  dNext))
  (dFor (dRng1 (dCons (dC (.int 3)) dNil)) (gNm 4)
  (dSeq (dSet 5 (dOp rMod (dCB rInt (dCons (dOp rAddP (dOp rAddP (dOp rMulI (dVar 3) (dC (.int 48271))) (dOp rMulI (dVar 4) (dC (.int 40503)))) (dC (.int 11))) dNil)) (dC (.int 2147483629))))
  (dDrop (dApp (dVar 1) (dCons (dOp rMod (dCB rInt (dCons (dOp rAddP (dOp rMulI (dVar 5) (dC (.int 69621))) (dOp rFdiv (dVar 5) (dC (.int 65536)))) dNil)) (dC (.int 2147483629))) dNil)))))))))
  (dRetF (dVar 1))))
theorem rd_law_tape (ds M Q E) (h : sp_law_tape ds M Q E) : w_law_tape { nx := fun _ M' => Q .non M', rt := Q } (startD 6 ds) M := by
  obtain ⟨ns, rfl, hl, hq⟩ := h
  refine ⟨Nat.zero_le _, fun p hp => ?_⟩
  refine ⟨_, rfl, ?_⟩
  refine dLoop_ind (fun rest δ M1 => ∃ (ts : List Int) (a3 a4 a5 a2 : Option D) (ks : List Int) (n : Nat), rest = dInts ks ∧ n + ks.length ≤ 63 ∧ δ = [some (.scr (dInts ns)), some (.ref p), a2, a3, a4, a5] ∧ M1 = mput M p (.lst (dInts ts)) ∧ (ts.length ≤ 40 * n ∧ ∀ t, t ∈ ts → 0 ≤ t ∧ t < 2147483648)) ?_ ?_ _ _ _
    ⟨[], none, none, none, none, ns, 0, rfl, by omega, rfl, rfl, by simp, by simp⟩
  · rintro x xs δ M1 K hK ⟨ts, a3, a4, a5, a2, ks, n, e, hn, rfl, rfl, ht⟩
    refine ⟨trivial, ?_⟩
    obtain ⟨c, ks, rfl⟩ : ∃ c r, ks = c :: r := by
      cases ks with
      | nil => cases e
      | cons c r => exact ⟨c, r, rfl⟩
    injection e with e1 e2
    subst e1; subst e2
    have hn' : n + 1 + ks.length ≤ 63 := by rw [List.length_cons] at hn; omega
    -- number = 2 * int(cell)
    refine ⟨_, rfl, .inl ⟨_, rfl, mulL (by decide) (by decide), ?_⟩⟩
    -- behind the fold of the sign
    have go : ∀ z : Int, 0 ≤ z → (dIf (dTst (dOp rGe (dVar 3) (dOp rPow (dC (.int 10)) (dC (.int 18)))))
        (dFor (dRng1 (dCons (dC (.int 40)) dNil)) (gNm 4)
          (dIf (dTst (dOp rGt (dVar 3) (dC (.int 0))))
            (dSeq (dDrop (dApp (dVar 1) (dCons (dOp rMod (dCB rInt (dCons (dVar 3) dNil)) (dC (.int 1000))) dNil)))
              (dSet 3 (dOp rFdiv (dVar 3) (dC (.int 1000)))))
            dNext))
        (dFor (dRng1 (dCons (dC (.int 3)) dNil)) (gNm 4)
          (dSeq (dSet 5 (dOp rMod (dCB rInt (dCons (dOp rAddP (dOp rAddP (dOp rMulI (dVar 3) (dC (.int 48271))) (dOp rMulI (dVar 4) (dC (.int 40503)))) (dC (.int 11))) dNil)) (dC (.int 2147483629))))
            (dDrop (dApp (dVar 1) (dCons (dOp rMod (dCB rInt (dCons (dOp rAddP (dOp rMulI (dVar 5) (dC (.int 69621))) (dOp rFdiv (dVar 5) (dC (.int 65536)))) dNil)) (dC (.int 2147483629))) dNil))))))
        { nx := K, rt := Q, bk := fun δ M1 => dRetF (dVar 1) { nx := fun _ M' => Q .non M', rt := Q } δ M1, ct := K } [some (.scr (dInts ns)), some (.ref p), some (.int c), some (.int z), a4, a5] (mput M p (.lst (dInts ts))) := by
      intro z hz
      refine ⟨_, rfl, ⟨by decide, by decide, by decide⟩, trivial, _, rfl, ite_d (fun hbig => ?_) (fun hsm => ?_)⟩
      · -- the digits
        refine ⟨40, rfl, by decide, ?_⟩
        refine dLoop_ind (fun rest δ M1 => ∃ (ts : List Int) (z : Int) (a4 a5 : Option D), 0 ≤ z ∧ δ = [some (.scr (dInts ns)), some (.ref p), some (.int c), some (.int z), a4, a5] ∧ M1 = mput M p (.lst (dInts ts)) ∧ (ts.length + rest.length ≤ 40 * n + 40 ∧ ∀ t, t ∈ ts → 0 ≤ t ∧ t < 2147483648)) ?_ ?_ _ _ _
          ⟨ts, z, a4, a5, hz, rfl, rfl, by have := ht.1; show ts.length + 40 ≤ _; omega, ht.2⟩
        · rintro x xs δ M1 K2 hK2 ⟨ts, z, a4, a5, hz, rfl, rfl, ht2⟩
          refine ⟨trivial, ⟨_, rfl, trivial, _, rfl, ite_d (fun h => ?_) (fun h => ?_)⟩⟩
          · refine ⟨_, rfl, ⟨p, dInts ts, rfl, mput_same⟩, _, rfl, .inl ⟨z, rfl, (by decide : (1000 : Int) ≠ 0), p, dInts ts, _, rfl, rfl, mput_same, ?_, ?_⟩⟩
            · unfold dInts; rw [List.length_map]
              exact sz16lt (by have := ht2.1; rw [List.length_cons] at this; omega)
            · refine ⟨_, rfl, cfd_small (by decide) (by decide), ?_⟩
              dsimp only
              rw [fmod_pos (show (0 : Int) < 1000 by decide), fdiv_pos (show (0 : Int) < 1000 by decide), mput_mput, dInts_app]
              have := tape_app (n := 40 * n + 40 - (xs.length + 1)) ⟨by have := ht2.1; rw [List.length_cons] at this; omega, ht2.2⟩ (show 0 ≤ z % 1000 by omega) (show z % 1000 < 2147483648 by omega)
              have h40 := ht2.1
              rw [List.length_cons] at h40
              exact hK2 _ _ ⟨ts ++ [z % 1000], z / 1000, _, a5, by omega, rfl, rfl, by have := this.1; omega, this.2⟩
          · exact hK2 _ _ ⟨ts, z, _, a5, hz, rfl, rfl, by have := ht2.1; rw [List.length_cons] at this; omega, ht2.2⟩
        · rintro δ M1 ⟨ts, z, a4, a5, hz, rfl, rfl, ht2⟩
          exact ⟨trivial, hK _ _ ⟨ts, _, _, _, _, ks, n + 1, rfl, hn', rfl, rfl, by have := ht2.1; simp at this; omega, ht2.2⟩⟩
      · -- three numbers
        have hz18 : z < 1000000000000000000 := by
          have : ¬ (10 : Int) ^ (18 : Int).toNat ≤ z := hsm
          have e : (10 : Int) ^ (18 : Int).toNat = 1000000000000000000 := by decide
          omega
        refine ⟨3, rfl, by decide, ?_⟩
        refine dLoop_ind (fun rest δ M1 => ∃ (ts : List Int) (a4 a5 : Option D), (∀ d, d ∈ rest → ∃ k : Int, d = .int k ∧ 0 ≤ k ∧ k < 3) ∧ δ = [some (.scr (dInts ns)), some (.ref p), some (.int c), some (.int z), a4, a5] ∧ M1 = mput M p (.lst (dInts ts)) ∧ (ts.length + rest.length ≤ 40 * n + 3 ∧ ∀ t, t ∈ ts → 0 ≤ t ∧ t < 2147483648)) ?_ ?_ _ _ _
          ⟨ts, a4, a5, ?_, rfl, rfl, by have := ht.1; show ts.length + 3 ≤ _; omega, ht.2⟩
        · rintro x xs δ M1 K2 hK2 ⟨ts, a4, a5, hr, rfl, rfl, ht2⟩
          obtain ⟨k, rfl, hk0, hk3⟩ := hr x List.mem_cons_self
          refine ⟨trivial, ?_⟩
          refine ⟨_, rfl, mulR (by decide) (by decide), _, rfl, mulR (by decide) (by decide), .inl ⟨_, rfl, (by decide : (2147483629 : Int) ≠ 0), ?_⟩⟩
          refine ⟨_, rfl, ⟨p, dInts ts, rfl, mput_same⟩, _, rfl, mulR (by decide) (by decide), _, rfl, cfd_small (by decide) (by decide), .inl ⟨_, rfl, (by decide : (2147483629 : Int) ≠ 0), p, dInts ts, _, rfl, rfl, mput_same, ?_, ?_⟩⟩
          · unfold dInts; rw [List.length_map]
            exact sz16lt (by have := ht2.1; rw [List.length_cons] at this; omega)
          · dsimp only
            rw [mput_mput, dInts_app]
            simp only [fmod_pos (show (0 : Int) < 2147483629 by decide), fdiv_pos (show (0 : Int) < 65536 by decide)]
            generalize (z * 48271 + k * 40503 + 11) % 2147483629 = u
            have := tape_app (t := (u * 69621 + u / 65536) % 2147483629) (n := 40 * n + 3 - (xs.length + 1)) ⟨by have := ht2.1; rw [List.length_cons] at this; omega, ht2.2⟩ (by omega) (by omega)
            have h40 := ht2.1
            rw [List.length_cons] at h40
            exact hK2 _ _ ⟨_, _, _, fun d hd => hr d (List.mem_cons_of_mem _ hd), rfl, rfl, by have := this.1; omega, this.2⟩
        · rintro δ M1 ⟨ts, a4, a5, hr, rfl, rfl, ht2⟩
          exact ⟨trivial, hK _ _ ⟨ts, _, _, _, _, ks, n + 1, rfl, hn', rfl, rfl, by have := ht2.1; simp at this; omega, ht2.2⟩⟩
        · intro d hd
          obtain ⟨k, hk, rfl⟩ := List.mem_map.mp hd
          have : k < 3 := by simpa using List.mem_range.mp hk
          exact ⟨_, rfl, by omega, by omega⟩
    refine ⟨_, rfl, trivial, _, rfl, ite_d (fun hneg => ?_) (fun hpos => ?_)⟩
    · refine ⟨_, rfl, trivial, go (-1 - 2 * c) ?_⟩
      have : (2 : Int) * c < 0 := hneg
      omega
    · exact go (2 * c) (by have : ¬ (2 : Int) * c < 0 := hpos; omega)
  · rintro δ M1 ⟨ts, a3, a4, a5, a2, ks, n, e, hn, rfl, rfl, ht⟩
    refine ⟨trivial, _, rfl, .inl ⟨p, dInts ts, rfl, mput_same, ?_⟩⟩
    rw [mdel_mput hp]
    exact hq ts ⟨by omega, ht.2⟩
/-- what stands between the deeds -/
structure LawSt (AD : Ad) (st p a1 a2 a3 m nr : Addr) (ks : List Str) (xs : List D) (b : Bk) (c : Nat) (M : Mem) : Prop where
  B : BkAt AD p a1 a2 a3 b M
  A : MdAt m nr ks xs b M
  ok : BkOk b
  ne : nr ≠ a2
  L : Lw st c M
section
variable {AD : Ad} {st p a1 a2 a3 m nr : Addr} {ks : List Str} {xs : List D} {b : Bk} {c : Nat} {M M' : Mem}
theorem ref_ne {x y : Addr} {o u : MO} (h1 : M x = some o) (h2 : M y = some u) (h : o ≠ u) : x ≠ y := fun e => by rw [e, h2] at h1; cases h1; exact h rfl
theorem LawSt.m1 (h : LawSt AD st p a1 a2 a3 m nr ks xs b c M) : m ≠ a1 := ref_ne h.A.at_ h.B.pts (by intro e; cases e)
theorem LawSt.m3 (h : LawSt AD st p a1 a2 a3 m nr ks xs b c M) : m ≠ a3 := ref_ne h.A.at_ h.B.rds (by intro e; cases e)
theorem LawSt.mp (h : LawSt AD st p a1 a2 a3 m nr ks xs b c M) : m ≠ p := ref_ne h.A.at_ h.B.ins (by intro e; cases e)
theorem LawSt.m2 (h : LawSt AD st p a1 a2 a3 m nr ks xs b c M) : m ≠ a2 := ref_ne h.A.at_ h.B.near (by
  intro e
  injection e with _ e
  cases hn : b.near with
  | nil => rw [hn] at e; cases e
  | cons q l => rw [hn] at e; injection e with e _; cases e)
theorem LawSt.n1 (h : LawSt AD st p a1 a2 a3 m nr ks xs b c M) : nr ≠ a1 := ref_ne h.A.nrAt h.B.pts (by intro e; cases e)
theorem LawSt.n3 (h : LawSt AD st p a1 a2 a3 m nr ks xs b c M) : nr ≠ a3 := ref_ne h.A.nrAt h.B.rds (by intro e; cases e)
theorem LawSt.s1 (h : LawSt AD st p a1 a2 a3 m nr ks xs b c M) : st ≠ a1 := by
  obtain ⟨ts, k, _, _, _, e⟩ := h.L
  refine ref_ne e h.B.pts ?_
  intro e
  injection e with e
  cases hn : b.pts with
  | nil => rw [hn] at e; cases e
  | cons q l => rw [hn] at e; injection e with e _; cases e
theorem LawSt.s3 (h : LawSt AD st p a1 a2 a3 m nr ks xs b c M) : st ≠ a3 := by
  obtain ⟨ts, k, _, _, _, e⟩ := h.L
  refine ref_ne e h.B.rds ?_
  intro e
  injection e with e
  cases hn : b.rds with
  | nil => rw [hn] at e; cases e
  | cons q l => rw [hn] at e; injection e with e _; cases e
theorem LawSt.s2 (h : LawSt AD st p a1 a2 a3 m nr ks xs b c M) : st ≠ a2 := by
  obtain ⟨ts, k, _, _, _, e⟩ := h.L
  exact ref_ne e h.B.near (by intro e; cases e)
theorem LawSt.sp (h : LawSt AD st p a1 a2 a3 m nr ks xs b c M) : st ≠ p := by
  obtain ⟨ts, k, _, _, _, e⟩ := h.L
  exact ref_ne e h.B.ins (by intro e; cases e)
theorem LawSt.sm (h : LawSt AD st p a1 a2 a3 m nr ks xs b c M) : st ≠ m := by
  obtain ⟨ts, k, _, _, _, e⟩ := h.L
  exact ref_ne e h.A.at_ (by intro e; cases e)
theorem LawSt.sn (h : LawSt AD st p a1 a2 a3 m nr ks xs b c M) : st ≠ nr := by
  obtain ⟨ts, k, _, _, _, e⟩ := h.L
  exact ref_ne e h.A.nrAt (by intro e; cases e)
theorem BkAt.kp {x : Addr} (B : BkAt AD p a1 a2 a3 b M) (k : KpX x M M') (hp : p ≠ x) (h1 : a1 ≠ x) (h2 : a2 ≠ x) (h3 : a3 ≠ x) : BkAt AD p a1 a2 a3 b M' := ⟨k _ _ hp B.ins, k _ _ h1 B.pts, k _ _ h2 B.near, k _ _ h3 B.rds, B.ne⟩
/-- something drawn -/
theorem LawSt.draw {c' : Nat} (h : LawSt AD st p a1 a2 a3 m nr ks xs b c M) (k : KpX st M M') (L : Lw st c' M') : LawSt AD st p a1 a2 a3 m nr ks xs b c' M' :=
  ⟨h.B.kp k h.sp.symm h.s1.symm h.s2.symm h.s3.symm, ⟨k _ _ h.sm.symm h.A.at_, k _ _ h.sn.symm h.A.nrAt, h.A.get, h.A.ne, h.A.len⟩, h.ok, h.ne, L⟩
theorem stp_so {d : Dd} {e : Er} {t : Str} (h : stp b d = .error (e, t)) (ok : BkOk b) (sd : DdOk d) : SO t := by
  have lit : ∀ x ∈ (["points", "terms", "weight", "readings", "used"] : List Str), SO x := by
    have : ((["points", "terms", "weight", "readings", "used"] : List Str).all fun x => PyData.strOk x) = true := by decide +kernel
    exact fun x hx => List.all_eq_true.mp this x hx
  cases d with
  | point n q =>
    have h : addP b n q = _ := h
    unfold addP at h
    split at h
    · cases h; exact sd
    · split at h
      · cases h; exact lit _ (by simp)
      · cases h
  | reading r =>
    have h : addR b r = _ := h
    unfold addR at h
    split at h
    · cases h; exact sd.nm
    · split at h
      · split at h
        · rename_i n hu
          have this : ∀ (t : List (Str × Int)) (z : Str), (∀ x, x ∈ t → SO x.1) → unk b.pts t = some z → SO z := by
            intro t z
            induction t with
            | nil => intro _ h; cases h
            | cons x t ih =>
              intro hs h
              unfold unk at h
              split at h
              · exact ih (fun y hy => hs y (List.mem_cons_of_mem _ hy)) h
              · cases h; exact hs _ List.mem_cons_self
          have hz := this _ _ sd.tm hu
          cases h
          exact hz
        · split at h
          · cases h; exact lit _ (by simp)
          · split at h
            · cases h; exact lit _ (by simp)
            · cases h
      · cases h; exact lit _ (by simp)
  | appr n q =>
    have h : chA b n q = _ := h
    unfold chA at h
    split at h
    · cases h
    · cases h; exact sd
  | value n q =>
    have h : chV b n q = _ := h
    unfold chV at h
    split at h
    · cases h; exact sd
    · cases h
  | weight n q =>
    have h : chW b n q = _ := h
    unfold chW at h
    split at h
    · cases h; exact sd
    · split at h
      · cases h; exact lit _ (by simp)
      · cases h
  | withdraw n =>
    have h : wdr b n = _ := h
    unfold wdr at h
    split at h
    · cases h; exact sd
    · cases h
  | remove n =>
    have h : rmP b n = _ := h
    unfold rmP at h
    split at h
    · split at h
      · cases h; exact lit _ (by simp)
      · cases h
    · cases h; exact sd
end
def sp_law_7d45 : DSp := fun ds M Q _ => ∃ ns : List Int, ds = [.scr (dInts ns)] ∧ ns.length ≤ 63 ∧ ∀ M', Q (.bl true) M'
section
variable {AD : Ad} {st p a1 a2 a3 m nr : Addr} {ks : List Str} {xs : List D} {b : Bk} {c : Nat} {M M' : Mem}
theorem LawSt.kpA (h : LawSt AD st p a1 a2 a3 m nr ks xs b c M) (k : KpA M M') : LawSt AD st p a1 a2 a3 m nr ks xs b c M' :=
  ⟨⟨k _ _ h.B.ins, k _ _ h.B.pts, k _ _ h.B.near, k _ _ h.B.rds, h.B.ne⟩, ⟨k _ _ h.A.at_, k _ _ h.A.nrAt, h.A.get, h.A.ne, h.A.len⟩, h.ok, h.ne, (by
    obtain ⟨ts, z, h1, h2, h3, e⟩ := h.L
    exact ⟨ts, z, h1, h2, h3, k _ _ e⟩)⟩
/-- but at a book and a model all that stands stays -/
def KpB (a1 a2 a3 m : Addr) (M M' : Mem) : Prop := ∀ x o, (x ≠ a1 ∧ x ≠ a2 ∧ x ≠ a3 ∧ x ≠ m) → M x = some o → M' x = some o
/-- a deed told to a book and to a model -/
theorem LawSt.deed (S : LawSt AD st p a1 a2 a3 m nr ks xs b c M) (hks : ks.length ≤ 1000) {d : Dd} (sd : DdOk d) {Q : D → Mem → D → Mem → Prop}
    (k : ∀ nr' ks' xs' b' r M1 M', plD r 8 = true → LawSt AD st p a1 a2 a3 m nr' ks' xs' b' c M' → ks'.length ≤ ks.length + 1 → (FitOk b → FitOk b') → (nr' = nr ∨ M nr' = none) → KpB a1 a2 a3 m M M' → Q r M1 r M') :
    Told AD p a1 a2 a3 (stp b d) M fun r M1 => ∃ (m' nr' : Addr) (ks' : List Str) (xs' : List D) (b' : Bk) (d' : Dd), [D.ref m, ddD d] = [.ref m', ddD d'] ∧ MdAt m' nr' ks' xs' b' M1 ∧ BkOk b' ∧ ks'.length ≤ 1000 ∧ DdOk d' ∧ Due m' nr' ks' xs' b' (stp b' d') M1 fun r2 M2 => Q r M1 r2 M2 := by
  cases hr : stp b d with
  | error e =>
    obtain ⟨e, t⟩ := e
    have st_ := stp_so hr S.ok sd
    have pl : plD (.tup [.str e.wd, .str t]) 8 = true := by
      show (plD (.str e.wd) 7 && (plD (.str t) 7 && true)) = true
      rw [show plD (.str t) 7 = true from st_]
      cases e <;> (show (PyData.strOk _ && (true && true)) = true; decide +kernel)
    refine ⟨m, nr, ks, xs, b, d, rfl, S.A, S.ok, hks, sd, ?_⟩
    rw [hr]
    intro M' kp A'
    have S' : LawSt AD st p a1 a2 a3 m nr ks xs b c M' := ⟨S.B.kp kp S.mp.symm S.m1.symm S.m2.symm S.m3.symm, A', S.ok, S.ne, (by
      obtain ⟨ts, z, h1, h2, h3, e⟩ := S.L
      exact ⟨ts, z, h1, h2, h3, kp _ _ S.sm e⟩)⟩
    exact k nr ks xs b _ M M' pl S' (by omega) id (.inl rfl) fun x o h e => kp x o h.2.2.2 e
  | ok b' =>
    intro M1 B1 o1
    have A1 : MdAt m nr ks xs b M1 := ⟨(o1 m S.m1 S.m2 S.m3).trans S.A.at_, (o1 nr S.n1 S.ne S.n3).trans S.A.nrAt, S.A.get, S.A.ne, S.A.len⟩
    have L1 : Lw st c M1 := S.L.at_ (o1 st S.s1 S.s2 S.s3)
    have ok' := S.ok.stp sd hr
    refine ⟨m, nr, ks, xs, b, d, rfl, A1, S.ok, hks, sd, ?_⟩
    rw [hr]
    intro nr' ks' xs' M2 A2 hk' hnr kp
    have S' : LawSt AD st p a1 a2 a3 m nr' ks' xs' b' c M2 := ⟨B1.kp kp S.mp.symm S.m1.symm S.m2.symm S.m3.symm, A2, ok', (by
      rcases hnr with e | e
      · rw [e]; exact S.ne
      · intro z; rw [z, B1.near] at e; cases e), (by
      obtain ⟨ts, z, h1, h2, h3, e⟩ := L1
      exact ⟨ts, z, h1, h2, h3, kp _ _ S.sm e⟩)⟩
    refine k nr' ks' xs' b' .non M1 M2 rfl S' hk' (fun f => f.stp hr) ?_ fun x o h e => kp x o h.2.2.2 ((o1 x h.1 h.2.1 h.2.2.1).trans e)
    rcases hnr with e | e
    · exact .inl e
    · by_cases z : nr' = nr
      · exact .inl z
      · refine .inr ?_
        have h1 : nr' ≠ a1 := fun z => by rw [z, B1.pts] at e; cases e
        have h2 : nr' ≠ a2 := fun z => by rw [z, B1.near] at e; cases e
        have h3 : nr' ≠ a3 := fun z => by rw [z, B1.rds] at e; cases e
        rw [o1 nr' h1 h2 h3] at e; exact e
/-- where a deed does not reach -/
structure Far (p c1 c2 c3 m' nr' a1 a2 a3 m : Addr) : Prop where
  p : p ≠ a1 ∧ p ≠ a2 ∧ p ≠ a3 ∧ p ≠ m
  c1 : c1 ≠ a1 ∧ c1 ≠ a2 ∧ c1 ≠ a3 ∧ c1 ≠ m
  c2 : c2 ≠ a1 ∧ c2 ≠ a2 ∧ c2 ≠ a3 ∧ c2 ≠ m
  c3 : c3 ≠ a1 ∧ c3 ≠ a2 ∧ c3 ≠ a3 ∧ c3 ≠ m
  m' : m' ≠ a1 ∧ m' ≠ a2 ∧ m' ≠ a3 ∧ m' ≠ m
  nr : nr' ≠ a1 ∧ nr' ≠ a2 ∧ nr' ≠ a3 ∧ nr' ≠ m
theorem LawSt.far {q1 q2 q3 m0 : Addr} {st0 : Addr} (h : LawSt AD st p a1 a2 a3 m nr ks xs b c M) (k : KpB q1 q2 q3 m0 M M') (f : Far p a1 a2 a3 m nr q1 q2 q3 m0) (L : Lw st c M') : LawSt AD st p a1 a2 a3 m nr ks xs b c M' :=
  ⟨⟨k _ _ f.p h.B.ins, k _ _ f.c1 h.B.pts, k _ _ f.c2 h.B.near, k _ _ f.c3 h.B.rds, h.B.ne⟩, ⟨k _ _ f.m' h.A.at_, k _ _ f.nr h.A.nrAt, h.A.get, h.A.ne, h.A.len⟩, h.ok, h.ne, L⟩
theorem LawSt.farNew {p' c1 c2 c3 m' nr' : Addr} {ks' : List Str} {xs' : List D} {b' : Bk} {nr2 : Addr} (h : LawSt AD st p' c1 c2 c3 m' nr' ks' xs' b' c M) (f : Far p a1 a2 a3 m nr c1 c2 c3 m') (hn : nr2 = nr ∨ M nr2 = none) : Far p a1 a2 a3 m nr2 c1 c2 c3 m' :=
  ⟨f.p, f.c1, f.c2, f.c3, f.m', (by
    rcases hn with e | e
    · rw [e]; exact f.nr
    · exact ⟨(fun z => by rw [z, h.B.pts] at e; cases e), (fun z => by rw [z, h.B.near] at e; cases e), (fun z => by rw [z, h.B.rds] at e; cases e), (fun z => by rw [z, h.A.at_] at e; cases e)⟩)⟩
end
def w_law_7d45 (AD : Ad) : DSt :=
  (dSeq (dSet 1 (dCB rLstR (dCons (dCall sp_law_tape (dCons (dVar 0) dNil)) (dCons (dC (.int 0)) dNil))))
  (dSeq (dSet 2 (dMkR AD.bk (sp_Book___init__ AD) dNil))
  (dSeq (dSet 3 (dDDisp ["points", "near", "readings"] [(dCB rLstV dNil), dDNew, (dCB rLstV dNil)]))
  (dSeq (dFor (dRng1 (dCons (dCall sp_law_take_65a1 (dCons (dVar 1) (dCons (dC (.int 13)) dNil))) dNil)) (gNm 4)
  (dSeq (dSet 7 (dCall sp_law_deed (dCons (dVar 1) (dCons (dDGet (dVar 3) (dC (.str "points"))) (dCons (dLc (dIt (dDGet (dVar 3) (dC (.str "readings")))) (gNm 8) dYes (dOp rIxD (dVar 8) (dC (.int 0))) [8]) dNil)))))
  (dSeq (dDrop (dCall (sp_law_told_97da AD) (dCons (dVar 2) (dCons (dVar 7) dNil))))
  (dDrop (dCall sp_law_due_9bdd (dCons (dVar 3) (dCons (dVar 7) dNil)))))))
  (dSeq (dFor (dRng1 (dCons (dCB rLen (dCons (dFld (· = AD.bk) "readings" (dVar 2)) dNil)) dNil)) (gNm 4)
  (dIf (dNot (dTru (dCall sp_law_row_is (dCons (dCall (sp_row_of AD) (dCons (dVar 2) (dCons (dOp rIxD (dFld (· = AD.bk) "readings" (dVar 2)) (dVar 4)) dNil))) (dCons (dDGet (dVar 3) (dC (.str "points"))) (dCons (dOp rIxD (dOp rIxD (dDGet (dVar 3) (dC (.str "readings"))) (dVar 4)) (dC (.int 1))) dNil))))))
  (dRet (dC (.bl false)))
  dNext))
  (dSeq (dSet 5 (dMethC AD.bk "twin" (sp_Book_twin_083b AD) noE (dVar 2) dNil))
  (dSeq (dSet 6 (dDDisp ["points", "near", "readings"] [(dCB rLstOf (dCons (dDGet (dVar 3) (dC (.str "points"))) dNil)), (dCB rDictK (dCons (dDGet (dVar 3) (dC (.str "near"))) dNil)), (dCB rLstOf (dCons (dDGet (dVar 3) (dC (.str "readings"))) dNil))]))
  (dSeq (dFor (dRng1 (dCons (dCall sp_law_take_65a1 (dCons (dVar 1) (dCons (dC (.int 7)) dNil))) dNil)) (gNm 4)
  (dSeq (dSet 7 (dCall sp_law_deed (dCons (dVar 1) (dCons (dDGet (dVar 6) (dC (.str "points"))) (dCons (dLc (dIt (dDGet (dVar 6) (dC (.str "readings")))) (gNm 8) dYes (dOp rIxD (dVar 8) (dC (.int 0))) [8]) dNil)))))
  (dSeq (dIf (dTst (dOp rEqP (dCall sp_law_take_65a1 (dCons (dVar 1) (dCons (dC (.int 2)) dNil))) (dC (.int 0))))
  (dIf (dTst (dOp rNeP (dCall (sp_law_told_97da AD) (dCons (dVar 2) (dCons (dVar 7) dNil))) (dCall sp_law_due_9bdd (dCons (dVar 3) (dCons (dVar 7) dNil)))))
  (dRet (dC (.bl false)))
  dNext)
  (dIf (dTst (dOp rNeP (dCall (sp_law_told_97da AD) (dCons (dVar 5) (dCons (dVar 7) dNil))) (dCall sp_law_due_9bdd (dCons (dVar 6) (dCons (dVar 7) dNil)))))
  (dRet (dC (.bl false)))
  dNext))
  (dIf (dOr (dNot (dTru (dCall (sp_law_agrees AD) (dCons (dVar 2) (dCons (dVar 3) dNil))))) (dNot (dTru (dCall (sp_law_agrees AD) (dCons (dVar 5) (dCons (dVar 6) dNil))))))
  (dRet (dC (.bl false)))
  dNext))))
  (dRet (dAndV (dCall (sp_law_agrees AD) (dCons (dVar 2) (dCons (dVar 3) dNil))) (dCall (sp_law_agrees AD) (dCons (dVar 5) (dCons (dVar 6) dNil)))))))))))))
theorem no_rne {r : D} {M : Mem} {Q : DK} (pl : plD r 8 = true) (q : Q (.bl false) M) : rNeP r r M Q := .inl ⟨pl, pl, fun z hz => by
  cases z with
  | true => exact absurd rfl (hz.mp rfl)
  | false => exact q⟩
theorem Told.imp {AD p a1 a2 a3 r M} {Q Q' : DK} (h : Told AD p a1 a2 a3 r M Q) (k : ∀ d M', Q d M' → Q' d M') : Told AD p a1 a2 a3 r M Q' := by
  cases r with
  | error e => exact k _ _ h
  | ok b => exact fun M' B o => k _ _ (h M' B o)
theorem rd_law_7d45 (AD : Ad) (nd : AD.errs.Nodup) (ds M Q E) (h : sp_law_7d45 ds M Q E) : w_law_7d45 AD { nx := fun _ M' => Q .non M', rt := Q } (startD 9 ds) M := by
  obtain ⟨ns, rfl, hl, hq⟩ := h
  have l0 : 0 ≤ sizeLine := by decide
  refine ⟨_, rfl, ns, rfl, hl, fun ts hts => ⟨by show 2 ≤ sizeLine; decide, fun st hst => ?_⟩⟩
  have hL0 : Lw st 0 (mput M st (.lst [.lst (dInts ts), .int 0])) := ⟨ts, 0, hts, by decide, by decide, mput_same⟩
  generalize mput M st (.lst [.lst (dInts ts), .int 0]) = M1 at hL0
  intro p hp
  refine ⟨p, rfl, mput_same, fun a1 a2 a3 M2 B2 kp2 n1 n2 n3 => ⟨rfl, ?_⟩⟩
  have nsp : st ≠ p := (hL0.ne hp).symm
  have hL2 : Lw st 0 M2 := by
    obtain ⟨ts, z, h1, h2, h3, e⟩ := hL0
    exact ⟨ts, z, h1, h2, h3, kp2 st _ nsp (by rw [mput_ne nsp]; exact e)⟩
  intro m hm
  refine ⟨l0, fun nr hnr => ⟨l0, ?_, rfl, ?_⟩⟩
  · rw [mput_ne (fun e : m = nr => by rw [← e, mput_same] at hnr; cases hnr), mput_same]
  have nmr : m ≠ nr := fun e => by rw [← e, mput_same] at hnr; cases hnr
  rw [mput_ne nmr.symm] at hnr
  have off : ∀ a o, M2 a = some o → mput (mput (mput M2 m (.dic [] [])) nr (.dic [] [])) m (.dic ["points", "near", "readings"] [.lst [], .ref nr, .lst []]) a = some o := fun a o e => by
    have e1 : a ≠ m := fun z => by rw [z, hm] at e; cases e
    have e2 : a ≠ nr := fun z => by rw [z, hnr] at e; cases e
    rw [mput_ne e1, mput_ne e2, mput_ne e1]; exact e
  have S : LawSt AD st p a1 a2 a3 m nr [] [] ⟨[], [], []⟩ 0 (mput (mput (mput M2 m (.dic [] [])) nr (.dic [] [])) m (.dic ["points", "near", "readings"] [.lst [], .ref nr, .lst []])) :=
    ⟨⟨off _ _ B2.ins, off _ _ B2.pts, off _ _ B2.near, off _ _ B2.rds, B2.ne⟩, ⟨mput_same, by rw [mput_ne nmr.symm, mput_same], fun n q h => (by cases h), nmr.symm, rfl⟩,
      ⟨fun n h => (nomatch h), fun n h => (nomatch h), List.nodup_nil, rfl, List.nodup_nil, by decide, by decide⟩, (fun e => by rw [e, B2.near] at hnr; cases hnr), (by
        obtain ⟨ts, z, h1, h2, h3, e⟩ := hL2
        exact ⟨ts, z, h1, h2, h3, off _ _ e⟩)⟩
  generalize mput (mput (mput M2 m (.dic [] [])) nr (.dic [] [])) m (.dic ["points", "near", "readings"] [.lst [], .ref nr, .lst []]) = M3 at S
  refine ⟨_, rfl, st, _, 13, rfl, S.L, by omega, by decide, fun x M5 hx0 hx1 hL5 hO5 => ?_⟩
  have S5 := S.draw (KpX.off hO5) hL5
  obtain ⟨y, hy⟩ : ∃ y : Nat, x = y := ⟨x.toNat, by omega⟩
  subst hy
  refine ⟨(y : Int), rfl, ⟨by omega, by omega⟩, ?_⟩
  rw [rngD_eq]
  refine dLoop_ind (fun rest δ M6 => ∃ (k i : Nat) (nr : Addr) (ks : List Str) (xs : List D) (b : Bk) (a4 a7 : Option D), rest = ((List.range' i k).map fun (k : Nat) => D.int (k : Int)) ∧ i + k = y ∧ ks.length ≤ i ∧ FitOk b ∧ LawSt AD st p a1 a2 a3 m nr ks xs b (10 + 100 * i) M6 ∧ δ = [some (.scr (dInts ns)), some (.ref st), some (.ref p), some (.ref m), a4, none, none, a7, none]) ?_ ?_ _ _ _
    ⟨y, 0, nr, [], [], ⟨[], [], []⟩, none, none, rfl, by omega, by decide, (fun r h => (nomatch h)), ⟨S5.B, S5.A, S5.ok, S5.ne, S5.L.mono (by omega)⟩, rfl⟩
  · rintro d0 ys δ M6 K hK ⟨k, i, nr, ks, xs, b, a4, a7, e, hki, hks, fo, S6, rfl⟩
    cases k with
    | zero => cases e
    | succ k =>
      rw [List.range'_succ] at e
      injection e with e1 e2
      subst e1; subst e2
      have few := S6.ok.fewR
      refine ⟨trivial, _, rfl, _, rfl, m, _, _, _, _, rfl, rfl, S6.A.at_, rfl, _, rfl, m, _, _, _, _, rfl, rfl, S6.A.at_, rfl, ?_⟩
      refine lc_of (j := 8) rowD (fun r => D.str r.name) (fun _ => True) (fun r M K _ q => ⟨_, rfl, 0, rfl, _, rfl, q⟩) b.rds [] _ (fun _ _ => trivial) (by show 0 + _ ≤ _; exact sz16 (by omega)) ?_
      rw [List.nil_append, show (b.rds.map fun r => D.str r.name) = (b.rds.map Rdg.name).map D.str by rw [List.map_map]; rfl]
      refine ⟨st, _, b.pts, b.rds.map Rdg.name, rfl, S6.L, by omega, S6.ok.so, fun x hx => ?_, fun d M7 sd hL7 kp7 => ?_⟩
      · obtain ⟨r, hr, rfl⟩ := List.mem_map.mp hx
        exact (S6.ok.ro r hr).nm
      have S7 := S6.draw kp7 (hL7.mono (show _ ≤ 10 + 100 * (i + 1) by omega))
      refine ⟨_, rfl, _, rfl, p, a1, a2, a3, b, d, rfl, nd, S7.B, S7.ok, sd, ?_⟩
      refine (S7.deed (Q := fun _ _ _ M' => K [some (.scr (dInts ns)), some (.ref st), some (.ref p), some (.ref m), some (.int (i : Int)), none, none, some (ddD d), none] M') (by omega) sd fun nr' ks' xs' b' r M8 M9 pl S9 hk9 ff _ _ => hK _ _ ⟨k, i + 1, nr', ks', xs', b', _, _, rfl, by omega, by omega, ff fo, S9, rfl⟩).imp fun r M8 ⟨m', nr', ks', xs', b', d', e, A', ok', hk', sd', du⟩ => ?_
      exact ⟨_, rfl, _, rfl, m', nr', ks', xs', b', d', e, A', ok', hk', sd', du⟩
  rintro δ M6 ⟨k, i, nr, ks, xs, b, a4, a7, e, hki, hks, fo, S6, rfl⟩
  have few := S6.ok.fewR
  have fewP := S6.ok.few
  refine ⟨trivial, _, rfl, _, _, _, _, .inr ⟨p, rfl, S6.B.ins⟩, rfl, rfl, _, b.rds.length, rfl, ⟨_, S6.B.rds, by rw [List.length_map]⟩, _, rfl, ⟨by omega, by omega⟩, ?_⟩
  rw [rngD_eq]
  refine dLoop_ind (fun rest δ M7 => ∃ (k j : Nat) (a4 a7 : Option D), rest = ((List.range' j k).map fun (k : Nat) => D.int (k : Int)) ∧ j + k = b.rds.length ∧ LawSt AD st p a1 a2 a3 m nr ks xs b (10 + 100 * i) M7 ∧ δ = [some (.scr (dInts ns)), some (.ref st), some (.ref p), some (.ref m), a4, none, none, a7, none]) ?_ ?_ _ _ _
    ⟨b.rds.length, 0, _, _, rfl, by omega, S6, rfl⟩
  · rintro d0 ys δ M7 K hK ⟨k, j, a4, a7, e, hkj, S7, rfl⟩
    cases k with
    | zero => cases e
    | succ k =>
      rw [List.range'_succ] at e
      injection e with e1 e2
      subst e1; subst e2
      have hlt : j < b.rds.length := by omega
      have er : b.rds[j]? = some b.rds[j] := List.getElem?_eq_getElem hlt
      have hmem := List.getElem_mem hlt
      have eat : atI (b.rds.map (rdgD AD)) (j : Int) = some (rdgD AD b.rds[j]) := atI_nn (by omega) (by rw [Int.toNat_natCast, List.getElem?_map, er]; rfl)
      have eat2 : atI (b.rds.map rowD) (j : Int) = some (rowD b.rds[j]) := atI_nn (by omega) (by rw [Int.toNat_natCast, List.getElem?_map, er]; rfl)
      refine ⟨trivial, _, rfl, _, rfl, _, _, _, _, .inr ⟨p, rfl, S7.B.ins⟩, rfl, rfl, _, rfl, (j : Int), rfl, _, _, S7.B.rds, eat, p, a1, a2, a3, b, b.rds[j], rfl, S7.B, S7.ok, fo _ hmem, fun M8 kp8 => ?_⟩
      have S8 := S7.kpA kp8
      refine ⟨_, rfl, m, _, _, _, _, rfl, rfl, S8.A.at_, rfl, _, rfl, m, _, _, _, _, rfl, rfl, S8.A.at_, rfl, _, rfl, (j : Int), rfl, _, eat2, 1, rfl, _, rfl, b.pts, b.rds[j].terms, rfl, fewP, (S8.ok.ro _ hmem).few, S8.ok.so, (S8.ok.ro _ hmem).tm, fits_nodup (fo _ hmem), true, rfl, ite_f ?_⟩
      exact hK _ _ ⟨k, j + 1, _, _, rfl, by omega, S8, rfl⟩
  rintro δ M7 ⟨k, j, a4, a7, e, hkj, S7, rfl⟩
  refine ⟨trivial, _, rfl, _, _, .inr ⟨p, rfl, S7.B.ins⟩, by decide, .inr ⟨p, rfl, S7.B.ins⟩, p, a1, a2, a3, b, rfl, S7.B, S7.ok, fun p' c1 c2 c3 M8 B8 kp8 np' nc1 nc2 nc3 => ?_⟩
  have S8 := S7.kpA kp8
  intro m' hm'
  have stands : ∀ {q : Addr} {o : MO}, M8 q = some o → q ≠ m' := fun e z => by rw [z, hm'] at e; cases e
  have g8 : ∀ {q : Addr} {o o2 : MO}, M8 q = some o → mput M8 m' o2 q = some o := fun e => by rw [mput_ne (stands e)]; exact e
  refine ⟨_, rfl, m, _, _, _, _, rfl, rfl, g8 S8.A.at_, rfl, _, .inl rfl, ite_f ?_⟩
  refine ⟨_, rfl, m, _, _, _, _, rfl, rfl, g8 S8.A.at_, rfl, nr, ks, xs, rfl, g8 S8.A.nrAt, fun n' hn' => ?_⟩
  have nn' : n' ≠ m' := fun z => by rw [z, mput_same] at hn'; cases hn'
  rw [mput_ne nn'] at hn'
  have standsN : ∀ {q : Addr} {o : MO}, M8 q = some o → q ≠ n' := fun e z => by rw [z, hn'] at e; cases e
  have g9 : ∀ {q : Addr} {o o2 o3 : MO}, M8 q = some o → mput (mput M8 m' o2) n' o3 q = some o := fun e => by rw [mput_ne (standsN e)]; exact g8 e
  refine ⟨_, rfl, m, _, _, _, _, rfl, rfl, g9 S8.A.at_, rfl, _, .inl rfl, ite_f ⟨by rw [mput_ne nn'.symm, mput_same], rfl, ?_⟩⟩
  have kp9 : KpA M8 (mput (mput (mput M8 m' (.dic [] [])) n' (.dic ks xs)) m' (.dic ["points", "near", "readings"] [.lst (b.pts.map D.str), .ref n', .lst (b.rds.map rowD)])) := fun q o e => by rw [mput_ne (stands e)]; exact g9 e
  have A9 : MdAt m' n' ks xs b (mput (mput (mput M8 m' (.dic [] [])) n' (.dic ks xs)) m' (.dic ["points", "near", "readings"] [.lst (b.pts.map D.str), .ref n', .lst (b.rds.map rowD)])) := ⟨mput_same, by rw [mput_ne nn', mput_same], S8.A.get, nn', S8.A.len⟩
  generalize mput (mput (mput M8 m' (.dic [] [])) n' (.dic ks xs)) m' (.dic ["points", "near", "readings"] [.lst (b.pts.map D.str), .ref n', .lst (b.rds.map rowD)]) = M9 at kp9 A9
  have S9 := S8.kpA kp9
  have T9 : LawSt AD st p' c1 c2 c3 m' n' ks xs b (10 + 100 * i) M9 := ⟨⟨kp9 _ _ B8.ins, kp9 _ _ B8.pts, kp9 _ _ B8.near, kp9 _ _ B8.rds, B8.ne⟩, A9, S9.ok, (standsN B8.near).symm, S9.L⟩
  have fr : ∀ {z : Addr}, M7 z = none → z ≠ p ∧ z ≠ a1 ∧ z ≠ a2 ∧ z ≠ a3 ∧ z ≠ m ∧ z ≠ nr := fun hz => ⟨(fun e => by rw [e, S7.B.ins] at hz; cases hz), (fun e => by rw [e, S7.B.pts] at hz; cases hz), (fun e => by rw [e, S7.B.near] at hz; cases hz), (fun e => by rw [e, S7.B.rds] at hz; cases hz), (fun e => by rw [e, S7.A.at_] at hz; cases hz), (fun e => by rw [e, S7.A.nrAt] at hz; cases hz)⟩
  have fr8 : ∀ {z : Addr}, M8 z = none → z ≠ p ∧ z ≠ a1 ∧ z ≠ a2 ∧ z ≠ a3 ∧ z ≠ m ∧ z ≠ nr := fun hz => ⟨(fun e => by rw [e, S8.B.ins] at hz; cases hz), (fun e => by rw [e, S8.B.pts] at hz; cases hz), (fun e => by rw [e, S8.B.near] at hz; cases hz), (fun e => by rw [e, S8.B.rds] at hz; cases hz), (fun e => by rw [e, S8.A.at_] at hz; cases hz), (fun e => by rw [e, S8.A.nrAt] at hz; cases hz)⟩
  have f1 := fr np'; have f2 := fr nc1; have f3 := fr nc2; have f4 := fr nc3; have f5 := fr8 hm'; have f6 := fr8 hn'
  have F1 : Far p' c1 c2 c3 m' n' a1 a2 a3 m := ⟨⟨f1.2.1, f1.2.2.1, f1.2.2.2.1, f1.2.2.2.2.1⟩, ⟨f2.2.1, f2.2.2.1, f2.2.2.2.1, f2.2.2.2.2.1⟩, ⟨f3.2.1, f3.2.2.1, f3.2.2.2.1, f3.2.2.2.2.1⟩, ⟨f4.2.1, f4.2.2.1, f4.2.2.2.1, f4.2.2.2.2.1⟩, ⟨f5.2.1, f5.2.2.1, f5.2.2.2.1, f5.2.2.2.2.1⟩, ⟨f6.2.1, f6.2.2.1, f6.2.2.2.1, f6.2.2.2.2.1⟩⟩
  have F2 : Far p a1 a2 a3 m nr c1 c2 c3 m' := ⟨⟨f2.1.symm, f3.1.symm, f4.1.symm, f5.1.symm⟩, ⟨f2.2.1.symm, f3.2.1.symm, f4.2.1.symm, f5.2.1.symm⟩, ⟨f2.2.2.1.symm, f3.2.2.1.symm, f4.2.2.1.symm, f5.2.2.1.symm⟩, ⟨f2.2.2.2.1.symm, f3.2.2.2.1.symm, f4.2.2.2.1.symm, f5.2.2.2.1.symm⟩, ⟨f2.2.2.2.2.1.symm, f3.2.2.2.2.1.symm, f4.2.2.2.2.1.symm, f5.2.2.2.2.1.symm⟩, ⟨f2.2.2.2.2.2.symm, f3.2.2.2.2.2.symm, f4.2.2.2.2.2.symm, f5.2.2.2.2.2.symm⟩⟩
  refine ⟨_, rfl, st, _, 7, rfl, S9.L, by omega, by decide, fun x M10 hx0 hx1 hL10 hO10 => ?_⟩
  have S10 := S9.draw (KpX.off hO10) (hL10.mono (show _ ≤ 2000 by omega))
  have T10 := T9.draw (KpX.off hO10) (hL10.mono (show _ ≤ 2000 by omega))
  obtain ⟨y2, hy2⟩ : ∃ y : Nat, x = y := ⟨x.toNat, by omega⟩
  subst hy2
  refine ⟨(y2 : Int), rfl, ⟨by omega, by omega⟩, ?_⟩
  rw [rngD_eq]
  refine dLoop_ind (fun rest δ M6 => ∃ (k i : Nat) (nr : Addr) (ks : List Str) (xs : List D) (b : Bk) (n' : Addr) (ks' : List Str) (xs' : List D) (b' : Bk) (a4 a7 : Option D), rest = ((List.range' i k).map fun (k : Nat) => D.int (k : Int)) ∧ i + k = y2 ∧ ks.length ≤ 20 + i ∧ ks'.length ≤ 20 + i ∧ LawSt AD st p a1 a2 a3 m nr ks xs b (2000 + 100 * i) M6 ∧ LawSt AD st p' c1 c2 c3 m' n' ks' xs' b' (2000 + 100 * i) M6 ∧ Far p' c1 c2 c3 m' n' a1 a2 a3 m ∧ Far p a1 a2 a3 m nr c1 c2 c3 m' ∧ δ = [some (.scr (dInts ns)), some (.ref st), some (.ref p), some (.ref m), a4, some (.ref p'), some (.ref m'), a7, none]) ?_ ?_ _ _ _
    ⟨y2, 0, nr, ks, xs, b, n', ks, xs, b, _, _, rfl, by omega, by omega, by omega, S10, T10, F1, F2, rfl⟩
  · rintro d0 ys δ M11 K hK ⟨k, i, nr, ks, xs, b, n', ks', xs', b', a4, a7, e, hki, hks, hks', S11, T11, F1, F2, rfl⟩
    cases k with
    | zero => cases e
    | succ k =>
      rw [List.range'_succ] at e
      injection e with e1 e2
      subst e1; subst e2
      have few := T11.ok.fewR
      refine ⟨trivial, _, rfl, _, rfl, m', _, _, _, _, rfl, rfl, T11.A.at_, rfl, _, rfl, m', _, _, _, _, rfl, rfl, T11.A.at_, rfl, ?_⟩
      refine lc_of (j := 8) rowD (fun r => D.str r.name) (fun _ => True) (fun r M K _ q => ⟨_, rfl, 0, rfl, _, rfl, q⟩) b'.rds [] _ (fun _ _ => trivial) (by show 0 + _ ≤ _; exact sz16 (by omega)) ?_
      rw [List.nil_append, show (b'.rds.map fun r => D.str r.name) = (b'.rds.map Rdg.name).map D.str by rw [List.map_map]; rfl]
      refine ⟨st, _, b'.pts, b'.rds.map Rdg.name, rfl, T11.L, by omega, T11.ok.so, fun x hx => ?_, fun d M12 sd hL12 kp12 => ?_⟩
      · obtain ⟨r, hr, rfl⟩ := List.mem_map.mp hx
        exact (T11.ok.ro r hr).nm
      refine ⟨_, rfl, st, _, 2, rfl, hL12, by omega, by decide, fun z M13 hz0 hz1 hL13 hO13 => .inl ⟨rfl, rfl, eI ⟨_, rfl, ?_⟩⟩⟩
      have S13 := (S11.draw kp12 hL12).draw (KpX.off hO13) (hL13.mono (show _ ≤ 2000 + 100 * (i + 1) by omega))
      have T13 := (T11.draw kp12 hL12).draw (KpX.off hO13) (hL13.mono (show _ ≤ 2000 + 100 * (i + 1) by omega))
      refine ite_d (fun hz => ?_) fun hz => ?_
      · refine ⟨_, rfl, _, rfl, p, a1, a2, a3, b, d, rfl, nd, S13.B, S13.ok, sd, ?_⟩
        refine (S13.deed (Q := fun r M1 r2 M' => rNeP r r2 M' fun w M1 => ∃ v, w = .bl v ∧ if v = true then Q (.bl false) M1 else (dIf (dOr (dNot (dTru (dCall (sp_law_agrees AD) (dCons (dVar 2) (dCons (dVar 3) dNil))))) (dNot (dTru (dCall (sp_law_agrees AD) (dCons (dVar 5) (dCons (dVar 6) dNil)))))) (dRet (dC (.bl false))) dNext) { nx := K, rt := Q, bk := fun _ _ => False, ct := K } [some (.scr (dInts ns)), some (.ref st), some (.ref p), some (.ref m), some (.int (i : Int)), some (.ref p'), some (.ref m'), some (ddD d), none] M1) (by omega) sd fun nr2 ks2 xs2 b2 r M14 M15 pl S15 hk15 _ hnr kp15 => ?_).imp fun r M14 ⟨m0, nr0, ks0, xs0, b0, d0, e, A', ok', hk', sd', du⟩ => ?_
        · have T15 := T13.far (st0 := st) kp15 F1 S15.L
          have F2' := T13.farNew F2 hnr
          refine no_rne pl ⟨_, rfl, ite_f ⟨_, rfl, _, rfl, p, a1, a2, a3, m, nr2, ks2, xs2, b2, rfl, S15.B, S15.A, S15.ok, true, rfl, ite_f ⟨_, rfl, _, rfl, p', c1, c2, c3, m', n', ks', xs', b', rfl, T15.B, T15.A, T15.ok, true, rfl, ite_f ?_⟩⟩⟩
          exact hK _ _ ⟨k, i + 1, nr2, ks2, xs2, b2, n', ks', xs', b', _, _, rfl, by omega, by omega, by omega, S15, T15, F1, F2', rfl⟩
        · exact ⟨_, rfl, _, rfl, m0, nr0, ks0, xs0, b0, d0, e, A', ok', hk', sd', du⟩
      · refine ⟨_, rfl, _, rfl, p', c1, c2, c3, b', d, rfl, nd, T13.B, T13.ok, sd, ?_⟩
        refine (T13.deed (Q := fun r M1 r2 M' => rNeP r r2 M' fun w M1 => ∃ v, w = .bl v ∧ if v = true then Q (.bl false) M1 else (dIf (dOr (dNot (dTru (dCall (sp_law_agrees AD) (dCons (dVar 2) (dCons (dVar 3) dNil))))) (dNot (dTru (dCall (sp_law_agrees AD) (dCons (dVar 5) (dCons (dVar 6) dNil)))))) (dRet (dC (.bl false))) dNext) { nx := K, rt := Q, bk := fun _ _ => False, ct := K } [some (.scr (dInts ns)), some (.ref st), some (.ref p), some (.ref m), some (.int (i : Int)), some (.ref p'), some (.ref m'), some (ddD d), none] M1) (by omega) sd fun nr2 ks2 xs2 b2 r M14 M15 pl T15 hk15 _ hnr kp15 => ?_).imp fun r M14 ⟨m0, nr0, ks0, xs0, b0, d0, e, A', ok', hk', sd', du⟩ => ?_
        · have S15 := S13.far (st0 := st) kp15 F2 T15.L
          have F1' := S13.farNew F1 hnr
          refine no_rne pl ⟨_, rfl, ite_f ⟨_, rfl, _, rfl, p, a1, a2, a3, m, nr, ks, xs, b, rfl, S15.B, S15.A, S15.ok, true, rfl, ite_f ⟨_, rfl, _, rfl, p', c1, c2, c3, m', nr2, ks2, xs2, b2, rfl, T15.B, T15.A, T15.ok, true, rfl, ite_f ?_⟩⟩⟩
          exact hK _ _ ⟨k, i + 1, nr, ks, xs, b, nr2, ks2, xs2, b2, _, _, rfl, by omega, by omega, by omega, S15, T15, F1', F2, rfl⟩
        · exact ⟨_, rfl, _, rfl, m0, nr0, ks0, xs0, b0, d0, e, A', ok', hk', sd', du⟩
  · rintro δ M11 ⟨k, i, nr, ks, xs, b, n', ks', xs', b', a4, a7, e, hki, hks, hks', S11, T11, F1, F2, rfl⟩
    exact ⟨trivial, _, rfl, _, rfl, p, a1, a2, a3, m, nr, ks, xs, b, rfl, S11.B, S11.A, S11.ok, true, rfl, ite_t ⟨_, rfl, _, rfl, p', c1, c2, c3, m', n', ks', xs', b', rfl, T11.B, T11.A, T11.ok, hq _⟩⟩
structure Txt (K : PySem.W.Frag) (mg : Str → Option Value) (CR : Addr) : Prop where
  g_gcd : mg "gcd" = some (.builtin "math.gcd")
  f_isinstance : mg "isinstance" = none
  f_abs : mg "abs" = none
  f_len : mg "len" = none
  k_MOST_POINTS : ∃ t, mg "MOST_POINTS" = some (.int 12 t)
  f_int : mg "int" = none
  f_bool : mg "bool" = none
  f_tuple : mg "tuple" = none
  f_range : mg "range" = none
  f_list : mg "list" = none
  k_MOST_COEFFICIENT : ∃ t, mg "MOST_COEFFICIENT" = some (.int 9 t)
  k_MOST_READINGS : ∃ t, mg "MOST_READINGS" = some (.int 24 t)
  f_enumerate : mg "enumerate" = none
  f_dict : mg "dict" = none
  f_sum : mg "sum" = none
section
variable {P : Program} {w : World} {K : PySem.W.Frag} {mg : Str → Option Value} {base : Heap} {CR Z S B f : Addr} {fd : FuncData} {AD : Ad}
theorem sc_Ratio___init__ : FnScope ["self", "top", "bottom", "common"] ["self", "top", "bottom"] (defScope s_Ratio___init__) := ⟨rfl, rfl, rfl, by decide +kernel, rfl, by decide +kernel, by decide +kernel⟩
theorem ok_Ratio___init__ (F : FunD K "__init__" "Ratio.__init__" (defArgs s_Ratio___init__) (defBody s_Ratio___init__) (defScope s_Ratio___init__) [V.int 1] [] f fd) (b : Txt K mg CR) (c : Cls K CR) (nt : NoAttr K CR "top") (nb : NoAttr K CR "bottom") (sk : seerCk K = true) (pt : P.given.tree = none) : FnOk P w K mg base (L2.CX P w) 36 f fd ["self", "top", "bottom"] (lSp K CR (sp_init CR)) :=
  okD F sc_Ratio___init__ (fun cdv A outer s H E hr => (s_cons (s_if (t_cmp (o_eqP hr.units) (dv 2) di)
    (s_one s_never)
    s_nil)
    (s_cons (s_set (i := 3) sc_Ratio___init__.nd (d_gcd b.g_gcd (da_cons (dv 1) (da_cons (dv 2) da_nil))))
    (s_cons (s_if (t_cmp o_lt (dv 2) di)
    (s_one (s_set (i := 3) sc_Ratio___init__.nd (d_un o_negI (dv 3))))
    s_nil)
    (s_cons (s_fld (okC := (· = CR)) (fun C h => by subst h; exact ⟨c, nt⟩) (dv 0) (d_op (o_fdivB (pyR_of sk pt hr rfl sc_Ratio___init__.gen sc_Ratio___init__.co)) (dv 1) (dv 3)))
    (s_one (s_fld (okC := (· = CR)) (fun C h => by subst h; exact ⟨c, nb⟩) (dv 0) (d_op (o_fdivB (pyR_of sk pt hr rfl sc_Ratio___init__.gen sc_Ratio___init__.co)) (dv 2) (dv 3))))))))) (fun ds M Q E h => by repeat (first | (obtain ⟨e, _⟩ := h; exact congrArg List.length e) | (obtain ⟨_, h⟩ := h))) (rd_Ratio___init__ CR)
theorem sc_Ratio___add__ : FnScope ["self", "other"] ["self", "other"] (defScope s_Ratio___add__) := ⟨rfl, rfl, rfl, by decide +kernel, rfl, by decide +kernel, by decide +kernel⟩
theorem ok_Ratio___add__ (F : FunD K "__add__" "Ratio.__add__" (defArgs s_Ratio___add__) (defBody s_Ratio___add__) (defScope s_Ratio___add__) [] [] f fd) (b : Txt K mg CR) (T : RatT0 P w K mg base CR) : FnOk P w K mg base (L2.CX P w) 38 f fd ["self", "other"] (lSp K CR sp_add) :=
  okD F sc_Ratio___add__ (fun cdv A outer s H E hr => (s_one (s_ret (T.ini.d_mk T.g (hr.mono (by decide)) (da_cons (d_op o_addP (d_op o_mulI (d_top T.cls T.nt (dv 0)) (d_bot T.cls T.nb (dv 1))) (d_op o_mulI (d_top T.cls T.nt (dv 1)) (d_bot T.cls T.nb (dv 0)))) (da_cons (d_op o_mulI (d_bot T.cls T.nb (dv 0)) (d_bot T.cls T.nb (dv 1))) da_nil)))))) (fun ds M Q E h => by repeat (first | (obtain ⟨e, _⟩ := h; exact congrArg List.length e) | (obtain ⟨_, h⟩ := h))) rd_Ratio___add__
theorem sc_Ratio___sub__ : FnScope ["self", "other"] ["self", "other"] (defScope s_Ratio___sub__) := ⟨rfl, rfl, rfl, by decide +kernel, rfl, by decide +kernel, by decide +kernel⟩
theorem ok_Ratio___sub__ (F : FunD K "__sub__" "Ratio.__sub__" (defArgs s_Ratio___sub__) (defBody s_Ratio___sub__) (defScope s_Ratio___sub__) [] [] f fd) (b : Txt K mg CR) (T : RatT0 P w K mg base CR) : FnOk P w K mg base (L2.CX P w) 38 f fd ["self", "other"] (lSp K CR sp_sub) :=
  okD F sc_Ratio___sub__ (fun cdv A outer s H E hr => (s_one (s_ret (T.ini.d_mk T.g (hr.mono (by decide)) (da_cons (d_op o_subI (d_op o_mulI (d_top T.cls T.nt (dv 0)) (d_bot T.cls T.nb (dv 1))) (d_op o_mulI (d_top T.cls T.nt (dv 1)) (d_bot T.cls T.nb (dv 0)))) (da_cons (d_op o_mulI (d_bot T.cls T.nb (dv 0)) (d_bot T.cls T.nb (dv 1))) da_nil)))))) (fun ds M Q E h => by repeat (first | (obtain ⟨e, _⟩ := h; exact congrArg List.length e) | (obtain ⟨_, h⟩ := h))) rd_Ratio___sub__
theorem sc_Ratio___mul__ : FnScope ["self", "other"] ["self", "other"] (defScope s_Ratio___mul__) := ⟨rfl, rfl, rfl, by decide +kernel, rfl, by decide +kernel, by decide +kernel⟩
theorem ok_Ratio___mul__ (F : FunD K "__mul__" "Ratio.__mul__" (defArgs s_Ratio___mul__) (defBody s_Ratio___mul__) (defScope s_Ratio___mul__) [] [] f fd) (b : Txt K mg CR) (T : RatT0 P w K mg base CR) : FnOk P w K mg base (L2.CX P w) 38 f fd ["self", "other"] (lSp K CR sp_mul) :=
  okD F sc_Ratio___mul__ (fun cdv A outer s H E hr => (s_one (s_ret (T.ini.d_mk T.g (hr.mono (by decide)) (da_cons (d_op o_mulI (d_top T.cls T.nt (dv 0)) (d_top T.cls T.nt (dv 1))) (da_cons (d_op o_mulI (d_bot T.cls T.nb (dv 0)) (d_bot T.cls T.nb (dv 1))) da_nil)))))) (fun ds M Q E h => by repeat (first | (obtain ⟨e, _⟩ := h; exact congrArg List.length e) | (obtain ⟨_, h⟩ := h))) rd_Ratio___mul__
theorem sc_Ratio___neg__ : FnScope ["self"] ["self"] (defScope s_Ratio___neg__) := ⟨rfl, rfl, rfl, by decide +kernel, rfl, by decide +kernel, by decide +kernel⟩
theorem ok_Ratio___neg__ (F : FunD K "__neg__" "Ratio.__neg__" (defArgs s_Ratio___neg__) (defBody s_Ratio___neg__) (defScope s_Ratio___neg__) [] [] f fd) (b : Txt K mg CR) (T : RatT0 P w K mg base CR) : FnOk P w K mg base (L2.CX P w) 38 f fd ["self"] (lSp K CR sp_neg) :=
  okD F sc_Ratio___neg__ (fun cdv A outer s H E hr => (s_one (s_ret (T.ini.d_mk T.g (hr.mono (by decide)) (da_cons (d_un o_negI (d_top T.cls T.nt (dv 0))) (da_cons (d_bot T.cls T.nb (dv 0)) da_nil)))))) (fun ds M Q E h => by repeat (first | (obtain ⟨e, _⟩ := h; exact congrArg List.length e) | (obtain ⟨_, h⟩ := h))) rd_Ratio___neg__
theorem sc_Ratio___eq__ : FnScope ["self", "other"] ["self", "other"] (defScope s_Ratio___eq__) := ⟨rfl, rfl, rfl, by decide +kernel, rfl, by decide +kernel, by decide +kernel⟩
theorem ok_Ratio___eq__ (F : FunD K "__eq__" "Ratio.__eq__" (defArgs s_Ratio___eq__) (defBody s_Ratio___eq__) (defScope s_Ratio___eq__) [] [] f fd) (b : Txt K mg CR) (T : RatT0 P w K mg base CR) : FnOk P w K mg base (L2.CX P w) 38 f fd ["self", "other"] (lSp K CR sp_eq) :=
  okD F sc_Ratio___eq__ (fun cdv A outer s H E hr => (s_one (s_ret (v_and (T.d_isR b.f_isinstance (dv 1)) (v_and (d_cmp (o_eqP hr.units) (d_top T.cls T.nt (dv 0)) (d_top T.cls T.nt (dv 1))) (v_one (d_cmp (o_eqP hr.units) (d_bot T.cls T.nb (dv 0)) (d_bot T.cls T.nb (dv 1))))))))) (fun ds M Q E h => by repeat (first | (obtain ⟨e, _⟩ := h; exact congrArg List.length e) | (obtain ⟨_, h⟩ := h))) rd_Ratio___eq__
theorem sc_Ratio___lt__ : FnScope ["self", "other"] ["self", "other"] (defScope s_Ratio___lt__) := ⟨rfl, rfl, rfl, by decide +kernel, rfl, by decide +kernel, by decide +kernel⟩
theorem ok_Ratio___lt__ (F : FunD K "__lt__" "Ratio.__lt__" (defArgs s_Ratio___lt__) (defBody s_Ratio___lt__) (defScope s_Ratio___lt__) [] [] f fd) (b : Txt K mg CR) (T : RatT0 P w K mg base CR) : FnOk P w K mg base (L2.CX P w) 38 f fd ["self", "other"] (lSp K CR sp_lt) :=
  okD F sc_Ratio___lt__ (fun cdv A outer s H E hr => (s_one (s_ret (d_cmp o_lt (d_op o_mulI (d_top T.cls T.nt (dv 0)) (d_bot T.cls T.nb (dv 1))) (d_op o_mulI (d_top T.cls T.nt (dv 1)) (d_bot T.cls T.nb (dv 0))))))) (fun ds M Q E h => by repeat (first | (obtain ⟨e, _⟩ := h; exact congrArg List.length e) | (obtain ⟨_, h⟩ := h))) rd_Ratio___lt__
theorem sc_Ratio___le__ : FnScope ["self", "other"] ["self", "other"] (defScope s_Ratio___le__) := ⟨rfl, rfl, rfl, by decide +kernel, rfl, by decide +kernel, by decide +kernel⟩
theorem ok_Ratio___le__ (F : FunD K "__le__" "Ratio.__le__" (defArgs s_Ratio___le__) (defBody s_Ratio___le__) (defScope s_Ratio___le__) [] [] f fd) (b : Txt K mg CR) (T : RatT0 P w K mg base CR) : FnOk P w K mg base (L2.CX P w) 38 f fd ["self", "other"] (lSp K CR sp_le) :=
  okD F sc_Ratio___le__ (fun cdv A outer s H E hr => (s_one (s_ret (d_cmp o_le (d_op o_mulI (d_top T.cls T.nt (dv 0)) (d_bot T.cls T.nb (dv 1))) (d_op o_mulI (d_top T.cls T.nt (dv 1)) (d_bot T.cls T.nb (dv 0))))))) (fun ds M Q E h => by repeat (first | (obtain ⟨e, _⟩ := h; exact congrArg List.length e) | (obtain ⟨_, h⟩ := h))) rd_Ratio___le__
theorem sc_Ratio___gt__ : FnScope ["self", "other"] ["self", "other"] (defScope s_Ratio___gt__) := ⟨rfl, rfl, rfl, by decide +kernel, rfl, by decide +kernel, by decide +kernel⟩
theorem ok_Ratio___gt__ (F : FunD K "__gt__" "Ratio.__gt__" (defArgs s_Ratio___gt__) (defBody s_Ratio___gt__) (defScope s_Ratio___gt__) [] [] f fd) (b : Txt K mg CR) (T : RatT0 P w K mg base CR) : FnOk P w K mg base (L2.CX P w) 38 f fd ["self", "other"] (lSp K CR sp_gt) :=
  okD F sc_Ratio___gt__ (fun cdv A outer s H E hr => (s_one (s_ret (d_cmp o_gt (d_op o_mulI (d_top T.cls T.nt (dv 0)) (d_bot T.cls T.nb (dv 1))) (d_op o_mulI (d_top T.cls T.nt (dv 1)) (d_bot T.cls T.nb (dv 0))))))) (fun ds M Q E h => by repeat (first | (obtain ⟨e, _⟩ := h; exact congrArg List.length e) | (obtain ⟨_, h⟩ := h))) rd_Ratio___gt__
theorem sc_Ratio___ge__ : FnScope ["self", "other"] ["self", "other"] (defScope s_Ratio___ge__) := ⟨rfl, rfl, rfl, by decide +kernel, rfl, by decide +kernel, by decide +kernel⟩
theorem ok_Ratio___ge__ (F : FunD K "__ge__" "Ratio.__ge__" (defArgs s_Ratio___ge__) (defBody s_Ratio___ge__) (defScope s_Ratio___ge__) [] [] f fd) (b : Txt K mg CR) (T : RatT0 P w K mg base CR) : FnOk P w K mg base (L2.CX P w) 38 f fd ["self", "other"] (lSp K CR sp_ge) :=
  okD F sc_Ratio___ge__ (fun cdv A outer s H E hr => (s_one (s_ret (d_cmp o_ge (d_op o_mulI (d_top T.cls T.nt (dv 0)) (d_bot T.cls T.nb (dv 1))) (d_op o_mulI (d_top T.cls T.nt (dv 1)) (d_bot T.cls T.nb (dv 0))))))) (fun ds M Q E h => by repeat (first | (obtain ⟨e, _⟩ := h; exact congrArg List.length e) | (obtain ⟨_, h⟩ := h))) rd_Ratio___ge__
theorem sc_Ratio___abs__ : FnScope ["self"] ["self"] (defScope s_Ratio___abs__) := ⟨rfl, rfl, rfl, by decide +kernel, rfl, by decide +kernel, by decide +kernel⟩
theorem ok_Ratio___abs__ (F : FunD K "__abs__" "Ratio.__abs__" (defArgs s_Ratio___abs__) (defBody s_Ratio___abs__) (defScope s_Ratio___abs__) [] [] f fd) (b : Txt K mg CR) (T : RatT0 P w K mg base CR) : FnOk P w K mg base (L2.CX P w) 38 f fd ["self"] (lSp K CR sp_abs) :=
  okD F sc_Ratio___abs__ (fun cdv A outer s H E hr => (s_one (s_ret (T.ini.d_mk T.g (hr.mono (by decide)) (da_cons (d_B c_absI b.f_abs (da_cons (d_top T.cls T.nt (dv 0)) da_nil)) (da_cons (d_bot T.cls T.nb (dv 0)) da_nil)))))) (fun ds M Q E h => by repeat (first | (obtain ⟨e, _⟩ := h; exact congrArg List.length e) | (obtain ⟨_, h⟩ := h))) rd_Ratio___abs__
theorem sc_DuplicateName___init__ : FnScope ["self", "name"] ["self", "name"] (defScope s_DuplicateName___init__) := ⟨rfl, rfl, rfl, by decide +kernel, rfl, by decide +kernel, by decide +kernel⟩
theorem ok_DuplicateName___init__ {C : Addr} (F : FunD K "__init__" "DuplicateName.__init__" (defArgs s_DuplicateName___init__) (defBody s_DuplicateName___init__) (defScope s_DuplicateName___init__) [] [] f fd) (oc : OexC K C) (no : PySem.W.findIn K (.ref C) "name" = some none) : FnOk P w K mg base (L2.CX P w) 2 f fd ["self", "name"] (spOe C "name") :=
  okOe F sc_DuplicateName___init__ oc no fun cdv A outer s H E => pss_one (ps_ost (pv 0) (pv 1))
theorem sc_BadReading___init__ : FnScope ["self", "reason"] ["self", "reason"] (defScope s_BadReading___init__) := ⟨rfl, rfl, rfl, by decide +kernel, rfl, by decide +kernel, by decide +kernel⟩
theorem ok_BadReading___init__ {C : Addr} (F : FunD K "__init__" "BadReading.__init__" (defArgs s_BadReading___init__) (defBody s_BadReading___init__) (defScope s_BadReading___init__) [] [] f fd) (oc : OexC K C) (no : PySem.W.findIn K (.ref C) "reason" = some none) : FnOk P w K mg base (L2.CX P w) 2 f fd ["self", "reason"] (spOe C "reason") :=
  okOe F sc_BadReading___init__ oc no fun cdv A outer s H E => pss_one (ps_ost (pv 0) (pv 1))
theorem sc_UnknownPoint___init__ : FnScope ["self", "name"] ["self", "name"] (defScope s_UnknownPoint___init__) := ⟨rfl, rfl, rfl, by decide +kernel, rfl, by decide +kernel, by decide +kernel⟩
theorem ok_UnknownPoint___init__ {C : Addr} (F : FunD K "__init__" "UnknownPoint.__init__" (defArgs s_UnknownPoint___init__) (defBody s_UnknownPoint___init__) (defScope s_UnknownPoint___init__) [] [] f fd) (oc : OexC K C) (no : PySem.W.findIn K (.ref C) "name" = some none) : FnOk P w K mg base (L2.CX P w) 2 f fd ["self", "name"] (spOe C "name") :=
  okOe F sc_UnknownPoint___init__ oc no fun cdv A outer s H E => pss_one (ps_ost (pv 0) (pv 1))
theorem sc_UnknownReading___init__ : FnScope ["self", "name"] ["self", "name"] (defScope s_UnknownReading___init__) := ⟨rfl, rfl, rfl, by decide +kernel, rfl, by decide +kernel, by decide +kernel⟩
theorem ok_UnknownReading___init__ {C : Addr} (F : FunD K "__init__" "UnknownReading.__init__" (defArgs s_UnknownReading___init__) (defBody s_UnknownReading___init__) (defScope s_UnknownReading___init__) [] [] f fd) (oc : OexC K C) (no : PySem.W.findIn K (.ref C) "name" = some none) : FnOk P w K mg base (L2.CX P w) 2 f fd ["self", "name"] (spOe C "name") :=
  okOe F sc_UnknownReading___init__ oc no fun cdv A outer s H E => pss_one (ps_ost (pv 0) (pv 1))
theorem sc_LimitReached___init__ : FnScope ["self", "what"] ["self", "what"] (defScope s_LimitReached___init__) := ⟨rfl, rfl, rfl, by decide +kernel, rfl, by decide +kernel, by decide +kernel⟩
theorem ok_LimitReached___init__ {C : Addr} (F : FunD K "__init__" "LimitReached.__init__" (defArgs s_LimitReached___init__) (defBody s_LimitReached___init__) (defScope s_LimitReached___init__) [] [] f fd) (oc : OexC K C) (no : PySem.W.findIn K (.ref C) "what" = some none) : FnOk P w K mg base (L2.CX P w) 2 f fd ["self", "what"] (spOe C "what") :=
  okOe F sc_LimitReached___init__ oc no fun cdv A outer s H E => pss_one (ps_ost (pv 0) (pv 1))
theorem sc_Book_add_point_7c4f : FnScope ["self", "name", "approximation"] ["self", "name", "approximation"] (defScope s_Book_add_point_7c4f) := ⟨rfl, rfl, rfl, by decide +kernel, rfl, by decide +kernel, by decide +kernel⟩
theorem ok_Book_add_point_7c4f (F : FunD K "add_point" "Book.add_point" (defArgs s_Book_add_point_7c4f) (defBody s_Book_add_point_7c4f) (defScope s_Book_add_point_7c4f) [] [] f fd) (b : Txt K mg CR) (T : RatT P w K mg base CR) (BK : BkT K AD) (EK : EkT P w K mg base AD) (AP : ApT K AD) : FnOk P w K mg base (L2.CX P w) 41 f fd ["self", "name", "approximation"] (lSp K CR (sp_Book_add_point_7c4f AD)) :=
  okDX F sc_Book_add_point_7c4f (fun cdv A outer s H E E1 W hr tk => (s_cons (s_if (t_cmp (o_inK hr) (dv 1) (d_fld (okC := (· = AD.bk)) (fun C h => by subst h; exact ⟨BK.bc, BK.approximations⟩) (dv 0)))
    (s_one (s_raiseF EK.dup tk hr (dv 1)))
    s_nil)
    (s_cons (s_if (t_cmp (o_eqP hr.units) (d_B c_len b.f_len (da_cons (d_fld (okC := (· = AD.bk)) (fun C h => by subst h; exact ⟨BK.bc, BK.points⟩) (dv 0)) da_nil)) (d_kint b.k_MOST_POINTS))
    (s_one (s_raiseF EK.lim tk hr ds))
    s_nil)
    (s_cons (s_expr (d_app (pe_bm PySem.F.plainAttrs_list PySem.F.slot_list_append PySem.F.type_list_append mt_append (d_fld (okC := (· = AD.bk)) (fun C h => by subst h; exact ⟨BK.bc, BK.points⟩) (dv 0)) (da_cons (dv 1) da_nil))))
    (s_one (s_dput hr (d_fld (okC := (· = AD.bk)) (fun C h => by subst h; exact ⟨BK.bc, BK.approximations⟩) (dv 0)) (dv 1) (dv 2))))))) (fun ds M Q E h => by repeat (first | (obtain ⟨e, _⟩ := h; exact congrArg List.length e) | (obtain ⟨_, h⟩ := h))) (rd_Book_add_point_7c4f AD)
theorem sc_Book___init__ : FnScope ["self"] ["self"] (defScope s_Book___init__) := ⟨rfl, rfl, rfl, by decide +kernel, rfl, by decide +kernel, by decide +kernel⟩
theorem ok_Book___init__ (F : FunD K "__init__" "Book.__init__" (defArgs s_Book___init__) (defBody s_Book___init__) (defScope s_Book___init__) [] [] f fd) (b : Txt K mg CR) (T : RatT P w K mg base CR) (BK : BkT K AD) (EK : EkT P w K mg base AD) (AP : ApT K AD) : FnOk P w K mg base (L2.CX P w) 41 f fd ["self"] (lSp K CR (sp_Book___init__ AD)) :=
  okD F sc_Book___init__ (fun cdv A outer s H E hr => (s_cons (s_fld (okC := (· = AD.bk)) (fun C h => by subst h; exact ⟨BK.bc, BK.points⟩) (dv 0) (d_lstR da_nil))
    (s_cons (s_fld (okC := (· = AD.bk)) (fun C h => by subst h; exact ⟨BK.bc, BK.approximations⟩) (dv 0) d_dnew)
    (s_one (s_fld (okC := (· = AD.bk)) (fun C h => by subst h; exact ⟨BK.bc, BK.readings⟩) (dv 0) (d_lstR da_nil)))))) (fun ds M Q E h => by repeat (first | (obtain ⟨e, _⟩ := h; exact congrArg List.length e) | (obtain ⟨_, h⟩ := h))) (rd_Book___init__ AD)
theorem sc_Book_twin_083b : FnScope ["self", "other", "name"] ["self"] (defScope s_Book_twin_083b) := ⟨rfl, rfl, rfl, by decide +kernel, rfl, by decide +kernel, by decide +kernel⟩
theorem ok_Book_twin_083b (F : FunD K "twin" "Book.twin" (defArgs s_Book_twin_083b) (defBody s_Book_twin_083b) (defScope s_Book_twin_083b) [] [] f fd) (b : Txt K mg CR) (T : RatT P w K mg base CR) (BK : BkT K AD) (EK : EkT P w K mg base AD) (AP : ApT K AD) (M_Book_add_point_7c4f : MethC P w K mg base CR 41 AD.bk "add_point" ["self", "name", "approximation"] (sp_Book_add_point_7c4f AD)) (N_Book___init__ : MkC P w K mg base CR 41 "Book" AD.bk ["self"] (sp_Book___init__ AD)) : FnOk P w K mg base (L2.CX P w) 43 f fd ["self"] (lSp K CR (sp_Book_twin_083b AD)) :=
  okDX F sc_Book_twin_083b (fun cdv A outer s H E E1 W hr tk => (s_cons (s_set (i := 1) sc_Book_twin_083b.nd (d_mkR0 N_Book___init__ hr))
    (s_cons (s_for (passes_of rfl) rfl (i_it (d_fld (okC := (· = AD.bk)) (fun C h => by subst h; exact ⟨BK.bc, BK.points⟩) (dv 0))) (g_nm (i := 2) sc_Book_twin_083b.nd)
    (s_one (s_expr (d_methC M_Book_add_point_7c4f hr tk (dv 1) (da_cons (dv 2) (da_cons (d_dget hr (d_fld (okC := (· = AD.bk)) (fun C h => by subst h; exact ⟨BK.bc, BK.approximations⟩) (dv 0)) (dv 2)) da_nil))))))
    (s_cons (s_expr (d_ext (pe_bm PySem.F.plainAttrs_list PySem.F.slot_list_extend PySem.F.type_list_extend mt_extend (d_fld (okC := (· = AD.bk)) (fun C h => by subst h; exact ⟨BK.bc, BK.readings⟩) (dv 1)) (da_cons (d_fld (okC := (· = AD.bk)) (fun C h => by subst h; exact ⟨BK.bc, BK.readings⟩) (dv 0)) da_nil))))
    (s_one (s_ret (dv 1))))))) (fun ds M Q E h => by repeat (first | (obtain ⟨e, _⟩ := h; exact congrArg List.length e) | (obtain ⟨_, h⟩ := h))) (rd_Book_twin_083b AD)
theorem sc_law_is : FnScope ["_law_actual", "_law_pair_here"] ["_law_actual", "_law_pair_here"] (defScope s_law_is) := ⟨rfl, rfl, rfl, by decide +kernel, rfl, by decide +kernel, by decide +kernel⟩
theorem ok_law_is (F : FunD K "_law_is" "_law_is" (defArgs s_law_is) (defBody s_law_is) (defScope s_law_is) [] [] f fd) (b : Txt K mg CR) (T : RatT P w K mg base CR) : FnOk P w K mg base (L2.CX P w) 41 f fd ["_law_actual", "_law_pair_here"] (lSp K CR sp_law_is) :=
  okD F sc_law_is (fun cdv A outer s H E hr => (s_cons (s_if (t_bool (w_or (t_not (t_tru (T.d_isR b.f_isinstance (dv 0)))) (w_or (t_tru (d_B c_isi b.f_isinstance (da_cons (d_top T.cls T.nt (dv 0)) (da_cons (d_ty b.f_bool) da_nil)))) (w_or1 (t_tru (d_B c_isi b.f_isinstance (da_cons (d_bot T.cls T.nb (dv 0)) (da_cons (d_ty b.f_bool) da_nil))))))))
    (s_one (s_ret db))
    s_nil)
    (s_one (s_ret (v_and (d_B c_isi b.f_isinstance (da_cons (d_top T.cls T.nt (dv 0)) (da_cons (d_ty b.f_int) da_nil))) (v_one (d_cmp (o_eqP hr.units) (d_tup (da_cons (d_top T.cls T.nt (dv 0)) (da_cons (d_bot T.cls T.nb (dv 0)) da_nil))) (dv 1)))))))) (fun ds M Q E h => by repeat (first | (obtain ⟨e, _⟩ := h; exact congrArg List.length e) | (obtain ⟨_, h⟩ := h))) rd_law_is
theorem sc_law_reading_is : FnScope ["_law_reading", "_law_row"] ["_law_reading", "_law_row"] (defScope s_law_reading_is) := ⟨rfl, rfl, rfl, by decide +kernel, rfl, by decide +kernel, by decide +kernel⟩
theorem ok_law_reading_is (F : FunD K "_law_reading_is" "_law_reading_is" (defArgs s_law_reading_is) (defBody s_law_reading_is) (defScope s_law_reading_is) [] [] f fd) (b : Txt K mg CR) (T : RatT P w K mg base CR) (BK : BkT K AD) (EK : EkT P w K mg base AD) (AP : ApT K AD) (F_law_is : Def P w K mg base CR 41 "_law_is" ["_law_actual", "_law_pair_here"] sp_law_is) : FnOk P w K mg base (L2.CX P w) 42 f fd ["_law_reading", "_law_row"] (lSp K CR (sp_law_reading_is AD)) :=
  okD F sc_law_reading_is (fun cdv A outer s H E hr => (s_cons (s_if (t_bool (w_or (t_cmp (o_neP hr.units) (d_fld (okC := (· = AD.rd)) (fun C h => by subst h; exact ⟨BK.rc, BK.name⟩) (dv 0)) (d_ix (dv 1) di)) (w_or (t_cmp (o_neP hr.units) (d_fld (okC := (· = AD.rd)) (fun C h => by subst h; exact ⟨BK.rc, BK.terms⟩) (dv 0)) (d_ix (dv 1) di)) (w_or1 (t_not (t_tru (d_B c_isi b.f_isinstance (da_cons (d_fld (okC := (· = AD.rd)) (fun C h => by subst h; exact ⟨BK.rc, BK.terms⟩) (dv 0)) (da_cons (d_ty b.f_tuple) da_nil)))))))))
    (s_one (s_ret db))
    s_nil)
    (s_one (s_ret (v_and (d_call F_law_is (hr.mono (by decide)) (da_cons (d_fld (okC := (· = AD.rd)) (fun C h => by subst h; exact ⟨BK.rc, BK.value⟩) (dv 0)) (da_cons (d_ix (dv 1) di) da_nil))) (v_one (d_call F_law_is (hr.mono (by decide)) (da_cons (d_fld (okC := (· = AD.rd)) (fun C h => by subst h; exact ⟨BK.rc, BK.weight⟩) (dv 0)) (da_cons (d_ix (dv 1) di) da_nil))))))))) (fun ds M Q E h => by repeat (first | (obtain ⟨e, _⟩ := h; exact congrArg List.length e) | (obtain ⟨_, h⟩ := h))) (rd_law_reading_is AD)
theorem sc_law_agrees : FnScope ["_law_book", "_law_model", "_law_name", "_law_rows", "_law_k"] ["_law_book", "_law_model"] (defScope s_law_agrees) := ⟨rfl, rfl, rfl, by decide +kernel, rfl, by decide +kernel, by decide +kernel⟩
theorem ok_law_agrees (F : FunD K "_law_agrees" "_law_agrees" (defArgs s_law_agrees) (defBody s_law_agrees) (defScope s_law_agrees) [] [] f fd) (b : Txt K mg CR) (T : RatT P w K mg base CR) (BK : BkT K AD) (EK : EkT P w K mg base AD) (AP : ApT K AD) (F_law_reading_is : Def P w K mg base CR 42 "_law_reading_is" ["_law_reading", "_law_row"] (sp_law_reading_is AD)) (F_law_is : Def P w K mg base CR 41 "_law_is" ["_law_actual", "_law_pair_here"] sp_law_is) : FnOk P w K mg base (L2.CX P w) 43 f fd ["_law_book", "_law_model"] (lSp K CR (sp_law_agrees AD)) :=
  okD F sc_law_agrees (fun cdv A outer s H E hr => (s_cons (s_if (t_bool (w_or (t_not (t_tru (d_B c_isi b.f_isinstance (da_cons (d_fld (okC := (· = AD.bk)) (fun C h => by subst h; exact ⟨BK.bc, BK.points⟩) (dv 0)) (da_cons (d_ty b.f_list) da_nil))))) (w_or1 (t_cmp (o_neM hr.units) (d_fld (okC := (· = AD.bk)) (fun C h => by subst h; exact ⟨BK.bc, BK.points⟩) (dv 0)) (d_dget hr (dv 1) ds)))))
    (s_one (s_ret db))
    s_nil)
    (s_cons (s_if (t_bool (w_or (t_cmp (o_neP hr.units) (d_B c_lenK b.f_len (da_cons (d_fld (okC := (· = AD.bk)) (fun C h => by subst h; exact ⟨BK.bc, BK.approximations⟩) (dv 0)) da_nil)) (d_B c_len b.f_len (da_cons (d_fld (okC := (· = AD.bk)) (fun C h => by subst h; exact ⟨BK.bc, BK.points⟩) (dv 0)) da_nil))) (w_or1 (t_cmp (o_neP hr.units) (d_B c_len b.f_len (da_cons (d_fld (okC := (· = AD.bk)) (fun C h => by subst h; exact ⟨BK.bc, BK.readings⟩) (dv 0)) da_nil)) (d_B c_len b.f_len (da_cons (d_dget hr (dv 1) ds) da_nil))))))
    (s_one (s_ret db))
    s_nil)
    (s_cons (s_for PassesOwn.never rfl (i_it (d_fld (okC := (· = AD.bk)) (fun C h => by subst h; exact ⟨BK.bc, BK.points⟩) (dv 0))) (g_nm (i := 2) sc_law_agrees.nd)
    (s_one (s_if (t_bool (w_or (t_cmp (o_notInK hr) (dv 2) (d_fld (okC := (· = AD.bk)) (fun C h => by subst h; exact ⟨BK.bc, BK.approximations⟩) (dv 0))) (w_or1 (t_not (t_tru (d_call F_law_is (hr.mono (by decide)) (da_cons (d_dget hr (d_fld (okC := (· = AD.bk)) (fun C h => by subst h; exact ⟨BK.bc, BK.approximations⟩) (dv 0)) (dv 2)) (da_cons (d_dget hr (d_dget hr (dv 1) ds) (dv 2)) da_nil))))))))
    (s_one (s_ret db))
    s_nil)))
    (s_cons (s_set (i := 3) sc_law_agrees.nd (d_dget hr (dv 1) ds))
    (s_one (s_ret (d_cmp (o_eqP hr.units) (d_B c_len b.f_len (da_cons (d_lc (own := [("_law_k", 4)]) (g := (gName 4)) rfl sc_law_agrees.nd (i_rng1 b.f_range (da_cons (d_B c_len b.f_len (da_cons (dv 3) da_nil)) da_nil)) (by kernel_rfl) (cg_nm (j := 4) (by decide)) (mono_nm (j := 4)) (fun _ _ _ _ _ => (pg_name (i := 4) sc_law_agrees.nd rfl (by first | exact Or.inl rfl | exact Or.inr rfl))) (fun _ _ _ _ _ => (ts_one (t_not (t_tru (d_call F_law_reading_is (hr.mono (by decide)) (da_cons (d_ix (d_fld (okC := (· = AD.bk)) (fun C h => by subst h; exact ⟨BK.bc, BK.readings⟩) (dv 0)) (dv 4)) (da_cons (d_ix (dv 3) (dv 4)) da_nil))))))) (fun _ _ _ _ _ => (dv 4))) da_nil)) di)))))))) (fun ds M Q E h => by repeat (first | (obtain ⟨e, _⟩ := h; exact congrArg List.length e) | (obtain ⟨_, h⟩ := h))) (rd_law_agrees AD)
theorem sc_law_draw_e832 : FnScope ["_law_tape_here", "_law_at", "_law_many", "_law_number_here"] ["_law_tape_here", "_law_at", "_law_many"] (defScope s_law_draw_e832) := ⟨rfl, rfl, rfl, by decide +kernel, rfl, by decide +kernel, by decide +kernel⟩
theorem ok_law_draw_e832 (F : FunD K "_law_draw" "_law_draw" (defArgs s_law_draw_e832) (defBody s_law_draw_e832) (defScope s_law_draw_e832) [] [] f fd) (b : Txt K mg CR) (T : RatT P w K mg base CR) : FnOk P w K mg base (L2.CX P w) 41 f fd ["_law_tape_here", "_law_at", "_law_many"] (lSp K CR sp_law_draw_e832) :=
  okD F sc_law_draw_e832 (fun cdv A outer s H E hr => (s_cons (s_if (t_cmp o_lt (dv 1) (d_B c_len b.f_len (da_cons (dv 0) da_nil)))
    (s_one (s_ret (d_op o_mod (d_Ty c_int b.f_int (da_cons (d_ix (dv 0) (dv 1)) da_nil)) (dv 2))))
    s_nil)
    (s_cons (s_set (i := 3) sc_law_draw_e832.nd di)
    (s_cons (s_if (t_cmp o_gt (d_B c_len b.f_len (da_cons (dv 0) da_nil)) di)
    (s_one (s_set (i := 3) sc_law_draw_e832.nd (d_ix (dv 0) (d_op o_mod (d_Ty c_int b.f_int (da_cons (dv 1) da_nil)) (d_B c_len b.f_len (da_cons (dv 0) da_nil))))))
    s_nil)
    (s_one (s_ret (d_op o_mod (d_op o_mod (d_Ty c_int b.f_int (da_cons (d_op o_addP (d_op o_mulI (d_op o_mulI (d_op o_addP (dv 3) (dv 1)) (d_op o_addP (dv 1) di)) di) (d_op o_mulI (dv 1) di)) da_nil)) di) (dv 2)))))))) (fun ds M Q E h => by repeat (first | (obtain ⟨e, _⟩ := h; exact congrArg List.length e) | (obtain ⟨_, h⟩ := h))) rd_law_draw_e832
theorem sc_law_take_65a1 : FnScope ["_law_state", "_law_many"] ["_law_state", "_law_many"] (defScope s_law_take_65a1) := ⟨rfl, rfl, rfl, by decide +kernel, rfl, by decide +kernel, by decide +kernel⟩
theorem ok_law_take_65a1 (F : FunD K "_law_take" "_law_take" (defArgs s_law_take_65a1) (defBody s_law_take_65a1) (defScope s_law_take_65a1) [] [] f fd) (b : Txt K mg CR) (T : RatT P w K mg base CR) (F_law_draw_e832 : Def P w K mg base CR 41 "_law_draw" ["_law_tape_here", "_law_at", "_law_many"] sp_law_draw_e832) : FnOk P w K mg base (L2.CX P w) 42 f fd ["_law_state", "_law_many"] (lSp K CR sp_law_take_65a1) :=
  okD F sc_law_take_65a1 (fun cdv A outer s H E hr => (s_cons (s_asg (d_op o_addP (d_ix (dv 0) di) di) (g_sb (dv 0) di))
    (s_one (s_ret (d_call F_law_draw_e832 (hr.mono (by decide)) (da_cons (d_ix (dv 0) di) (da_cons (d_ix (dv 0) di) (da_cons (dv 1) da_nil)))))))) (fun ds M Q E h => by repeat (first | (obtain ⟨e, _⟩ := h; exact congrArg List.length e) | (obtain ⟨_, h⟩ := h))) rd_law_take_65a1
theorem sc_Reading___init__ : FnScope ["self", "name", "terms", "value", "weight"] ["self", "name", "terms", "value", "weight"] (defScope s_Reading___init__) := ⟨rfl, rfl, rfl, by decide +kernel, rfl, by decide +kernel, by decide +kernel⟩
theorem ok_Reading___init__ (F : FunD K "__init__" "Reading.__init__" (defArgs s_Reading___init__) (defBody s_Reading___init__) (defScope s_Reading___init__) [] [] f fd) (b : Txt K mg CR) (T : RatT P w K mg base CR) (BK : BkT K AD) (EK : EkT P w K mg base AD) (AP : ApT K AD) : FnOk P w K mg base (L2.CX P w) 41 f fd ["self", "name", "terms", "value", "weight"] (lSp K CR (sp_Reading___init__ AD)) :=
  okD F sc_Reading___init__ (fun cdv A outer s H E hr => (s_cons (s_fld (okC := (· = AD.rd)) (fun C h => by subst h; exact ⟨BK.rc, BK.name⟩) (dv 0) (dv 1))
    (s_cons (s_fld (okC := (· = AD.rd)) (fun C h => by subst h; exact ⟨BK.rc, BK.terms⟩) (dv 0) (dv 2))
    (s_cons (s_fld (okC := (· = AD.rd)) (fun C h => by subst h; exact ⟨BK.rc, BK.value⟩) (dv 0) (dv 3))
    (s_one (s_fld (okC := (· = AD.rd)) (fun C h => by subst h; exact ⟨BK.rc, BK.weight⟩) (dv 0) (dv 4))))))) (fun ds M Q E h => by repeat (first | (obtain ⟨e, _⟩ := h; exact congrArg List.length e) | (obtain ⟨_, h⟩ := h))) (rd_Reading___init__ AD)
theorem sc_Book_require_point : FnScope ["self", "name"] ["self", "name"] (defScope s_Book_require_point) := ⟨rfl, rfl, rfl, by decide +kernel, rfl, by decide +kernel, by decide +kernel⟩
theorem ok_Book_require_point (F : FunD K "require_point" "Book.require_point" (defArgs s_Book_require_point) (defBody s_Book_require_point) (defScope s_Book_require_point) [] [] f fd) (b : Txt K mg CR) (T : RatT P w K mg base CR) (BK : BkT K AD) (EK : EkT P w K mg base AD) (AP : ApT K AD) : FnOk P w K mg base (L2.CX P w) 41 f fd ["self", "name"] (lSp K CR (sp_Book_require_point AD)) :=
  okDX F sc_Book_require_point (fun cdv A outer s H E E1 W hr tk => (s_one (s_if (t_cmp (o_notInK hr) (dv 1) (d_fld (okC := (· = AD.bk)) (fun C h => by subst h; exact ⟨BK.bc, BK.approximations⟩) (dv 0)))
    (s_one (s_raiseF EK.up tk hr (dv 1)))
    s_nil))) (fun ds M Q E h => by repeat (first | (obtain ⟨e, _⟩ := h; exact congrArg List.length e) | (obtain ⟨_, h⟩ := h))) (rd_Book_require_point AD)
theorem sc_terms_fit : FnScope ["terms", "before", "name", "coefficient"] ["terms"] (defScope s_terms_fit) := ⟨rfl, rfl, rfl, by decide +kernel, rfl, by decide +kernel, by decide +kernel⟩
theorem ok_terms_fit (F : FunD K "terms_fit" "terms_fit" (defArgs s_terms_fit) (defBody s_terms_fit) (defScope s_terms_fit) [] [] f fd) (b : Txt K mg CR) (T : RatT P w K mg base CR) : FnOk P w K mg base (L2.CX P w) 41 f fd ["terms"] (lSp K CR sp_terms_fit) :=
  okD F sc_terms_fit (fun cdv A outer s H E hr => (s_cons (s_set (i := 1) sc_terms_fit.nd ds)
    (s_cons (s_for PassesOwn.never rfl (i_it (dv 0)) (g_tu rfl (gs_cons (g_nm (i := 2) sc_terms_fit.nd) (gs_cons (g_nm (i := 3) sc_terms_fit.nd) gs_nil)))
    (s_cons (s_if (t_bool (w_or (t_cmp (o_eqP hr.units) (dv 3) di) (w_or (t_not (t_chain o_le o_le (d_un o_negI (d_kint b.k_MOST_COEFFICIENT)) (dv 3) (d_kint b.k_MOST_COEFFICIENT))) (w_or1 (t_cmp o_leS (dv 2) (dv 1))))))
    (s_one (s_ret db))
    s_nil)
    (s_one (s_set (i := 1) sc_terms_fit.nd (dv 2)))))
    (s_one (s_ret (d_cmp o_gt (d_B c_len b.f_len (da_cons (dv 0) da_nil)) di)))))) (fun ds M Q E h => by repeat (first | (obtain ⟨e, _⟩ := h; exact congrArg List.length e) | (obtain ⟨_, h⟩ := h))) rd_terms_fit
theorem sc_Book_add_reading_3063 : FnScope ["self", "name", "terms", "value", "weight", "reading", "point", "_"] ["self", "name", "terms", "value", "weight"] (defScope s_Book_add_reading_3063) := ⟨rfl, rfl, rfl, by decide +kernel, rfl, by decide +kernel, by decide +kernel⟩
theorem ok_Book_add_reading_3063 (F : FunD K "add_reading" "Book.add_reading" (defArgs s_Book_add_reading_3063) (defBody s_Book_add_reading_3063) (defScope s_Book_add_reading_3063) [] [] f fd) (b : Txt K mg CR) (T : RatT P w K mg base CR) (BK : BkT K AD) (EK : EkT P w K mg base AD) (AP : ApT K AD) (N_Reading___init__ : MkC P w K mg base CR 41 "Reading" AD.rd ["self", "name", "terms", "value", "weight"] (sp_Reading___init__ AD)) (M_Book_require_point : MethC P w K mg base CR 41 AD.bk "require_point" ["self", "name"] (sp_Book_require_point AD)) (F_terms_fit : Def P w K mg base CR 41 "terms_fit" ["terms"] sp_terms_fit) : FnOk P w K mg base (L2.CX P w) 43 f fd ["self", "name", "terms", "value", "weight"] (lSp K CR (sp_Book_add_reading_3063 AD)) :=
  okDX F sc_Book_add_reading_3063 (fun cdv A outer s H E E1 W hr tk => (s_cons (s_for (passes_of rfl) rfl (i_it (d_fld (okC := (· = AD.bk)) (fun C h => by subst h; exact ⟨BK.bc, BK.readings⟩) (dv 0))) (g_nm (i := 5) sc_Book_add_reading_3063.nd)
    (s_one (s_if (t_cmp (o_eqP hr.units) (d_fld (okC := (· = AD.rd)) (fun C h => by subst h; exact ⟨BK.rc, BK.name⟩) (dv 5)) (dv 1))
    (s_one (s_raiseF EK.dup tk hr (dv 1)))
    s_nil)))
    (s_cons (s_if (t_not (t_tru (d_call F_terms_fit (hr.mono (by decide)) (da_cons (dv 2) da_nil))))
    (s_one (s_raiseF EK.badr tk hr ds))
    s_nil)
    (s_cons (s_for (passes_of rfl) rfl (i_it (dv 2)) (g_tu rfl (gs_cons (g_nm (i := 6) sc_Book_add_reading_3063.nd) (gs_cons (g_nm (i := 7) sc_Book_add_reading_3063.nd) gs_nil)))
    (s_one (s_expr (d_methC M_Book_require_point hr tk (dv 0) (da_cons (dv 6) da_nil)))))
    (s_cons (s_if (t_cmp o_le (d_top T.cls T.nt (dv 4)) di)
    (s_one (s_raiseF EK.badr tk hr ds))
    s_nil)
    (s_cons (s_if (t_cmp (o_eqP hr.units) (d_B c_len b.f_len (da_cons (d_fld (okC := (· = AD.bk)) (fun C h => by subst h; exact ⟨BK.bc, BK.readings⟩) (dv 0)) da_nil)) (d_kint b.k_MOST_READINGS))
    (s_one (s_raiseF EK.lim tk hr ds))
    s_nil)
    (s_one (s_expr (d_app (pe_bm PySem.F.plainAttrs_list PySem.F.slot_list_append PySem.F.type_list_append mt_append (d_fld (okC := (· = AD.bk)) (fun C h => by subst h; exact ⟨BK.bc, BK.readings⟩) (dv 0)) (da_cons (d_mkZ N_Reading___init__ hr (da_cons (dv 1) (da_cons (dv 2) (da_cons (dv 3) (da_cons (dv 4) da_nil))))) da_nil))))))))))) (fun ds M Q E h => by repeat (first | (obtain ⟨e, _⟩ := h; exact congrArg List.length e) | (obtain ⟨_, h⟩ := h))) (rd_Book_add_reading_3063 AD)
theorem sc_Book_change_approximation_15c5 : FnScope ["self", "name", "approximation"] ["self", "name", "approximation"] (defScope s_Book_change_approximation_15c5) := ⟨rfl, rfl, rfl, by decide +kernel, rfl, by decide +kernel, by decide +kernel⟩
theorem ok_Book_change_approximation_15c5 (F : FunD K "change_approximation" "Book.change_approximation" (defArgs s_Book_change_approximation_15c5) (defBody s_Book_change_approximation_15c5) (defScope s_Book_change_approximation_15c5) [] [] f fd) (b : Txt K mg CR) (T : RatT P w K mg base CR) (BK : BkT K AD) (EK : EkT P w K mg base AD) (AP : ApT K AD) (M_Book_require_point : MethC P w K mg base CR 41 AD.bk "require_point" ["self", "name"] (sp_Book_require_point AD)) : FnOk P w K mg base (L2.CX P w) 42 f fd ["self", "name", "approximation"] (lSp K CR (sp_Book_change_approximation_15c5 AD)) :=
  okDX F sc_Book_change_approximation_15c5 (fun cdv A outer s H E E1 W hr tk => (s_cons (s_expr (d_methC M_Book_require_point hr tk (dv 0) (da_cons (dv 1) da_nil)))
    (s_one (s_dput hr (d_fld (okC := (· = AD.bk)) (fun C h => by subst h; exact ⟨BK.bc, BK.approximations⟩) (dv 0)) (dv 1) (dv 2))))) (fun ds M Q E h => by repeat (first | (obtain ⟨e, _⟩ := h; exact congrArg List.length e) | (obtain ⟨_, h⟩ := h))) (rd_Book_change_approximation_15c5 AD)
theorem sc_Book_place_of : FnScope ["self", "name", "place", "reading"] ["self", "name"] (defScope s_Book_place_of) := ⟨rfl, rfl, rfl, by decide +kernel, rfl, by decide +kernel, by decide +kernel⟩
theorem ok_Book_place_of (F : FunD K "place_of" "Book.place_of" (defArgs s_Book_place_of) (defBody s_Book_place_of) (defScope s_Book_place_of) [] [] f fd) (b : Txt K mg CR) (T : RatT P w K mg base CR) (BK : BkT K AD) (EK : EkT P w K mg base AD) (AP : ApT K AD) : FnOk P w K mg base (L2.CX P w) 41 f fd ["self", "name"] (lSp K CR (sp_Book_place_of AD)) :=
  okDX F sc_Book_place_of (fun cdv A outer s H E E1 W hr tk => (s_cons (s_for (passes_of rfl) rfl (i_enumA b.f_enumerate (da_cons (d_fld (okC := (· = AD.bk)) (fun C h => by subst h; exact ⟨BK.bc, BK.readings⟩) (dv 0)) da_nil)) (g_tu rfl (gs_cons (g_nm (i := 2) sc_Book_place_of.nd) (gs_cons (g_nm (i := 3) sc_Book_place_of.nd) gs_nil)))
    (s_one (s_if (t_cmp (o_eqP hr.units) (d_fld (okC := (· = AD.rd)) (fun C h => by subst h; exact ⟨BK.rc, BK.name⟩) (dv 3)) (dv 1))
    (s_one (s_ret (dv 2)))
    s_nil)))
    (s_one (s_raiseF EK.ur tk hr (dv 1))))) (fun ds M Q E h => by repeat (first | (obtain ⟨e, _⟩ := h; exact congrArg List.length e) | (obtain ⟨_, h⟩ := h))) (rd_Book_place_of AD)
theorem sc_Book_change_value_4165 : FnScope ["self", "name", "value", "place", "old"] ["self", "name", "value"] (defScope s_Book_change_value_4165) := ⟨rfl, rfl, rfl, by decide +kernel, rfl, by decide +kernel, by decide +kernel⟩
theorem ok_Book_change_value_4165 (F : FunD K "change_value" "Book.change_value" (defArgs s_Book_change_value_4165) (defBody s_Book_change_value_4165) (defScope s_Book_change_value_4165) [] [] f fd) (b : Txt K mg CR) (T : RatT P w K mg base CR) (BK : BkT K AD) (EK : EkT P w K mg base AD) (AP : ApT K AD) (N_Reading___init__ : MkC P w K mg base CR 41 "Reading" AD.rd ["self", "name", "terms", "value", "weight"] (sp_Reading___init__ AD)) (M_Book_place_of : MethC P w K mg base CR 41 AD.bk "place_of" ["self", "name"] (sp_Book_place_of AD)) : FnOk P w K mg base (L2.CX P w) 43 f fd ["self", "name", "value"] (lSp K CR (sp_Book_change_value_4165 AD)) :=
  okDX F sc_Book_change_value_4165 (fun cdv A outer s H E E1 W hr tk => (s_cons (s_set (i := 3) sc_Book_change_value_4165.nd (d_methC M_Book_place_of hr tk (dv 0) (da_cons (dv 1) da_nil)))
    (s_cons (s_set (i := 4) sc_Book_change_value_4165.nd (d_ix (d_fld (okC := (· = AD.bk)) (fun C h => by subst h; exact ⟨BK.bc, BK.readings⟩) (dv 0)) (dv 3)))
    (s_one (s_asg (d_mkZ N_Reading___init__ hr (da_cons (dv 1) (da_cons (d_fld (okC := (· = AD.rd)) (fun C h => by subst h; exact ⟨BK.rc, BK.terms⟩) (dv 4)) (da_cons (dv 2) (da_cons (d_fld (okC := (· = AD.rd)) (fun C h => by subst h; exact ⟨BK.rc, BK.weight⟩) (dv 4)) da_nil))))) (g_sb (d_fld (okC := (· = AD.bk)) (fun C h => by subst h; exact ⟨BK.bc, BK.readings⟩) (dv 0)) (dv 3))))))) (fun ds M Q E h => by repeat (first | (obtain ⟨e, _⟩ := h; exact congrArg List.length e) | (obtain ⟨_, h⟩ := h))) (rd_Book_change_value_4165 AD)
theorem sc_Book_change_weight_d0e6 : FnScope ["self", "name", "weight", "place", "old"] ["self", "name", "weight"] (defScope s_Book_change_weight_d0e6) := ⟨rfl, rfl, rfl, by decide +kernel, rfl, by decide +kernel, by decide +kernel⟩
theorem ok_Book_change_weight_d0e6 (F : FunD K "change_weight" "Book.change_weight" (defArgs s_Book_change_weight_d0e6) (defBody s_Book_change_weight_d0e6) (defScope s_Book_change_weight_d0e6) [] [] f fd) (b : Txt K mg CR) (T : RatT P w K mg base CR) (BK : BkT K AD) (EK : EkT P w K mg base AD) (AP : ApT K AD) (N_Reading___init__ : MkC P w K mg base CR 41 "Reading" AD.rd ["self", "name", "terms", "value", "weight"] (sp_Reading___init__ AD)) (M_Book_place_of : MethC P w K mg base CR 41 AD.bk "place_of" ["self", "name"] (sp_Book_place_of AD)) : FnOk P w K mg base (L2.CX P w) 43 f fd ["self", "name", "weight"] (lSp K CR (sp_Book_change_weight_d0e6 AD)) :=
  okDX F sc_Book_change_weight_d0e6 (fun cdv A outer s H E E1 W hr tk => (s_cons (s_set (i := 3) sc_Book_change_weight_d0e6.nd (d_methC M_Book_place_of hr tk (dv 0) (da_cons (dv 1) da_nil)))
    (s_cons (s_if (t_cmp o_le (d_top T.cls T.nt (dv 2)) di)
    (s_one (s_raiseF EK.badr tk hr ds))
    s_nil)
    (s_cons (s_set (i := 4) sc_Book_change_weight_d0e6.nd (d_ix (d_fld (okC := (· = AD.bk)) (fun C h => by subst h; exact ⟨BK.bc, BK.readings⟩) (dv 0)) (dv 3)))
    (s_one (s_asg (d_mkZ N_Reading___init__ hr (da_cons (dv 1) (da_cons (d_fld (okC := (· = AD.rd)) (fun C h => by subst h; exact ⟨BK.rc, BK.terms⟩) (dv 4)) (da_cons (d_fld (okC := (· = AD.rd)) (fun C h => by subst h; exact ⟨BK.rc, BK.value⟩) (dv 4)) (da_cons (dv 2) da_nil))))) (g_sb (d_fld (okC := (· = AD.bk)) (fun C h => by subst h; exact ⟨BK.bc, BK.readings⟩) (dv 0)) (dv 3)))))))) (fun ds M Q E h => by repeat (first | (obtain ⟨e, _⟩ := h; exact congrArg List.length e) | (obtain ⟨_, h⟩ := h))) (rd_Book_change_weight_d0e6 AD)
theorem sc_Book_withdraw_8f01 : FnScope ["self", "name"] ["self", "name"] (defScope s_Book_withdraw_8f01) := ⟨rfl, rfl, rfl, by decide +kernel, rfl, by decide +kernel, by decide +kernel⟩
theorem ok_Book_withdraw_8f01 (F : FunD K "withdraw" "Book.withdraw" (defArgs s_Book_withdraw_8f01) (defBody s_Book_withdraw_8f01) (defScope s_Book_withdraw_8f01) [] [] f fd) (b : Txt K mg CR) (T : RatT P w K mg base CR) (BK : BkT K AD) (EK : EkT P w K mg base AD) (AP : ApT K AD) (M_Book_place_of : MethC P w K mg base CR 41 AD.bk "place_of" ["self", "name"] (sp_Book_place_of AD)) : FnOk P w K mg base (L2.CX P w) 42 f fd ["self", "name"] (lSp K CR (sp_Book_withdraw_8f01 AD)) :=
  okDX F sc_Book_withdraw_8f01 (fun cdv A outer s H E E1 W hr tk => (s_one (s_delL (d_fld (okC := (· = AD.bk)) (fun C h => by subst h; exact ⟨BK.bc, BK.readings⟩) (dv 0)) (d_methC M_Book_place_of hr tk (dv 0) (da_cons (dv 1) da_nil))))) (fun ds M Q E h => by repeat (first | (obtain ⟨e, _⟩ := h; exact congrArg List.length e) | (obtain ⟨_, h⟩ := h))) (rd_Book_withdraw_8f01 AD)
theorem sc_Book_remove_point_5cca : FnScope ["self", "name", "reading", "point", "_"] ["self", "name"] (defScope s_Book_remove_point_5cca) := ⟨rfl, rfl, rfl, by decide +kernel, rfl, by decide +kernel, by decide +kernel⟩
theorem ok_Book_remove_point_5cca (F : FunD K "remove_point" "Book.remove_point" (defArgs s_Book_remove_point_5cca) (defBody s_Book_remove_point_5cca) (defScope s_Book_remove_point_5cca) [] [] f fd) (b : Txt K mg CR) (T : RatT P w K mg base CR) (BK : BkT K AD) (EK : EkT P w K mg base AD) (AP : ApT K AD) (M_Book_require_point : MethC P w K mg base CR 41 AD.bk "require_point" ["self", "name"] (sp_Book_require_point AD)) : FnOk P w K mg base (L2.CX P w) 42 f fd ["self", "name"] (lSp K CR (sp_Book_remove_point_5cca AD)) :=
  okDX F sc_Book_remove_point_5cca (fun cdv A outer s H E E1 W hr tk => (s_cons (s_expr (d_methC M_Book_require_point hr tk (dv 0) (da_cons (dv 1) da_nil)))
    (s_cons (s_for (passes_of rfl) rfl (i_it (d_fld (okC := (· = AD.bk)) (fun C h => by subst h; exact ⟨BK.bc, BK.readings⟩) (dv 0))) (g_nm (i := 2) sc_Book_remove_point_5cca.nd)
    (s_one (s_if (t_cmp (o_inP (hu65 hr)) (dv 1) (d_lc (own := [("point", 3), ("_", 4)]) (g := (gTup K 2 (gCons (gName 3) (gCons (gName 4) (gNil))))) rfl sc_Book_remove_point_5cca.nd (i_it (d_fld (okC := (· = AD.rd)) (fun C h => by subst h; exact ⟨BK.rc, BK.terms⟩) (dv 2))) (by kernel_rfl) (cg_tu (cgs_cons (cg_nm (j := 3) (by decide)) (mono_nm (j := 3)) (cgs_cons (cg_nm (j := 4) (by decide)) (mono_nm (j := 4)) cgs_nil mono_nil) (mono_cons (mono_nm (j := 4)) mono_nil))) (mono_tu (mono_cons (mono_nm (j := 3)) (mono_cons (mono_nm (j := 4)) mono_nil))) (fun _ _ _ _ _ => (pg_tup rfl (pgs_cons (pg_name (i := 3) sc_Book_remove_point_5cca.nd rfl (by first | exact Or.inl rfl | exact Or.inr rfl)) (pgs_cons (pg_name (i := 4) sc_Book_remove_point_5cca.nd rfl (by first | exact Or.inl rfl | exact Or.inr rfl)) pgs_nil)))) (fun _ _ _ _ _ => ts_nil) (fun _ _ _ _ _ => (dv 3))))
    (s_one (s_raiseF EK.badr tk hr ds))
    s_nil)))
    (s_cons (s_expr (d_rem (pe_bm PySem.F.plainAttrs_list PySem.F.slot_list_remove PySem.F.type_list_remove (mt_remT (k := 0) eqOk_str (hr.mono (by decide))) (d_fld (okC := (· = AD.bk)) (fun C h => by subst h; exact ⟨BK.bc, BK.points⟩) (dv 0)) (da_cons (dv 1) da_nil))))
    (s_one (s_ddel (d_fld (okC := (· = AD.bk)) (fun C h => by subst h; exact ⟨BK.bc, BK.approximations⟩) (dv 0)) (dv 1))))))) (fun ds M Q E h => by repeat (first | (obtain ⟨e, _⟩ := h; exact congrArg List.length e) | (obtain ⟨_, h⟩ := h))) (rd_Book_remove_point_5cca AD)
theorem sc_law_made_9a1d : FnScope ["_law_pair_here"] ["_law_pair_here"] (defScope s_law_made_9a1d) := ⟨rfl, rfl, rfl, by decide +kernel, rfl, by decide +kernel, by decide +kernel⟩
theorem ok_law_made_9a1d (F : FunD K "_law_made" "_law_made" (defArgs s_law_made_9a1d) (defBody s_law_made_9a1d) (defScope s_law_made_9a1d) [] [] f fd) (b : Txt K mg CR) (T : RatT P w K mg base CR) : FnOk P w K mg base (L2.CX P w) 41 f fd ["_law_pair_here"] (lSp K CR sp_law_made_9a1d) :=
  okD F sc_law_made_9a1d (fun cdv A outer s H E hr => (s_one (s_ret (T.ini.d_mk T.g (hr.mono (by decide)) (da_cons (d_ix (dv 0) di) (da_cons (d_ix (dv 0) di) da_nil)))))) (fun ds M Q E h => by repeat (first | (obtain ⟨e, _⟩ := h; exact congrArg List.length e) | (obtain ⟨_, h⟩ := h))) rd_law_made_9a1d
theorem sc_law_call : FnScope ["_law_book", "_law_deed_here"] ["_law_book", "_law_deed_here"] (defScope s_law_call) := ⟨rfl, rfl, rfl, by decide +kernel, rfl, by decide +kernel, by decide +kernel⟩
theorem ok_law_call (F : FunD K "_law_call" "_law_call" (defArgs s_law_call) (defBody s_law_call) (defScope s_law_call) [] [] f fd) (b : Txt K mg CR) (T : RatT P w K mg base CR) (BK : BkT K AD) (EK : EkT P w K mg base AD) (AP : ApT K AD) (M_Book_add_point_7c4f : MethC P w K mg base CR 41 AD.bk "add_point" ["self", "name", "approximation"] (sp_Book_add_point_7c4f AD)) (M_Book_add_reading_3063 : MethC P w K mg base CR 43 AD.bk "add_reading" ["self", "name", "terms", "value", "weight"] (sp_Book_add_reading_3063 AD)) (M_Book_change_approximation_15c5 : MethC P w K mg base CR 42 AD.bk "change_approximation" ["self", "name", "approximation"] (sp_Book_change_approximation_15c5 AD)) (M_Book_change_value_4165 : MethC P w K mg base CR 43 AD.bk "change_value" ["self", "name", "value"] (sp_Book_change_value_4165 AD)) (M_Book_change_weight_d0e6 : MethC P w K mg base CR 43 AD.bk "change_weight" ["self", "name", "weight"] (sp_Book_change_weight_d0e6 AD)) (M_Book_withdraw_8f01 : MethC P w K mg base CR 42 AD.bk "withdraw" ["self", "name"] (sp_Book_withdraw_8f01 AD)) (M_Book_remove_point_5cca : MethC P w K mg base CR 42 AD.bk "remove_point" ["self", "name"] (sp_Book_remove_point_5cca AD)) (F_law_made_9a1d : Def P w K mg base CR 41 "_law_made" ["_law_pair_here"] sp_law_made_9a1d) : FnOk P w K mg base (L2.CX P w) 44 f fd ["_law_book", "_law_deed_here"] (lSp K CR (sp_law_call AD)) :=
  okDX F sc_law_call (fun cdv A outer s H E E1 W hr tk => (s_one (s_if (t_cmp (o_eqP hr.units) (d_ix (dv 1) di) ds)
    (s_one (s_expr (d_methC M_Book_add_point_7c4f hr tk (dv 0) (da_cons (d_ix (dv 1) di) (da_cons (d_call F_law_made_9a1d (hr.mono (by decide)) (da_cons (d_ix (dv 1) di) da_nil)) da_nil)))))
    (s_one (s_if (t_cmp (o_eqP hr.units) (d_ix (dv 1) di) ds)
    (s_one (s_expr (d_methC M_Book_add_reading_3063 hr tk (dv 0) (da_cons (d_ix (dv 1) di) (da_cons (d_ix (dv 1) di) (da_cons (d_call F_law_made_9a1d (hr.mono (by decide)) (da_cons (d_ix (dv 1) di) da_nil)) (da_cons (d_call F_law_made_9a1d (hr.mono (by decide)) (da_cons (d_ix (dv 1) di) da_nil)) da_nil)))))))
    (s_one (s_if (t_cmp (o_eqP hr.units) (d_ix (dv 1) di) ds)
    (s_one (s_expr (d_methC M_Book_change_approximation_15c5 hr tk (dv 0) (da_cons (d_ix (dv 1) di) (da_cons (d_call F_law_made_9a1d (hr.mono (by decide)) (da_cons (d_ix (dv 1) di) da_nil)) da_nil)))))
    (s_one (s_if (t_cmp (o_eqP hr.units) (d_ix (dv 1) di) ds)
    (s_one (s_expr (d_methC M_Book_change_value_4165 hr tk (dv 0) (da_cons (d_ix (dv 1) di) (da_cons (d_call F_law_made_9a1d (hr.mono (by decide)) (da_cons (d_ix (dv 1) di) da_nil)) da_nil)))))
    (s_one (s_if (t_cmp (o_eqP hr.units) (d_ix (dv 1) di) ds)
    (s_one (s_expr (d_methC M_Book_change_weight_d0e6 hr tk (dv 0) (da_cons (d_ix (dv 1) di) (da_cons (d_call F_law_made_9a1d (hr.mono (by decide)) (da_cons (d_ix (dv 1) di) da_nil)) da_nil)))))
    (s_one (s_if (t_cmp (o_eqP hr.units) (d_ix (dv 1) di) ds)
    (s_one (s_expr (d_methC M_Book_withdraw_8f01 hr tk (dv 0) (da_cons (d_ix (dv 1) di) da_nil))))
    (s_one (s_expr (d_methC M_Book_remove_point_5cca hr tk (dv 0) (da_cons (d_ix (dv 1) di) da_nil))))))))))))))))) (fun ds M Q E h => by repeat (first | (obtain ⟨e, _⟩ := h; exact congrArg List.length e) | (obtain ⟨_, h⟩ := h))) (rd_law_call AD)
theorem sc_law_told_97da : FnScope ["_law_thing", "_law_deed_here", "e"] ["_law_thing", "_law_deed_here"] (defScope s_law_told_97da) := ⟨rfl, rfl, rfl, by decide +kernel, rfl, by decide +kernel, by decide +kernel⟩
theorem ok_law_told_97da (F : FunD K "_law_told" "_law_told" (defArgs s_law_told_97da) (defBody s_law_told_97da) (defScope s_law_told_97da) [] [] f fd) (b : Txt K mg CR) (T : RatT P w K mg base CR) (BK : BkT K AD) (EK : EkT P w K mg base AD) (AP : ApT K AD) (F_law_call : Def P w K mg base CR 44 "_law_call" ["_law_book", "_law_deed_here"] (sp_law_call AD)) : FnOk P w K mg base (L2.CX P w) 45 f fd ["_law_thing", "_law_deed_here"] (lSp K CR (sp_law_told_97da AD)) :=
  okD F sc_law_told_97da (fun cdv A outer s H E hr => (s_cons (s_tryM (i := 2) (AP.apart rfl) (one_of (by exact AP.nd)) takes0 sc_law_told_97da.nd (fun E1 W1 pn xe tk po =>
    (s_one (s_expr (d_callX F_law_call tk (hr.mono (by decide)) (da_cons (dv 0) (da_cons (dv 1) da_nil)))))) (.cons ⟨rfl, by decide, .inl EK.dup.g⟩ (fun a oe d y W1 pn hz hv hy hW => (s_one (s_ret (d_tup (da_cons ds (da_cons (d_errF EK.dup hz hv hy hW (dv 2)) da_nil)))))) (.cons ⟨rfl, by decide, .inl EK.badr.g⟩ (fun a oe d y W1 pn hz hv hy hW => (s_one (s_ret (d_tup (da_cons ds (da_cons (d_errF EK.badr hz hv hy hW (dv 2)) da_nil)))))) (.cons ⟨rfl, by decide, .inl EK.up.g⟩ (fun a oe d y W1 pn hz hv hy hW => (s_one (s_ret (d_tup (da_cons ds (da_cons (d_errF EK.up hz hv hy hW (dv 2)) da_nil)))))) (.cons ⟨rfl, by decide, .inl EK.ur.g⟩ (fun a oe d y W1 pn hz hv hy hW => (s_one (s_ret (d_tup (da_cons ds (da_cons (d_errF EK.ur hz hv hy hW (dv 2)) da_nil)))))) (.cons ⟨rfl, by decide, .inl EK.lim.g⟩ (fun a oe d y W1 pn hz hv hy hW => (s_one (s_ret (d_tup (da_cons ds (da_cons (d_errF EK.lim hz hv hy hW (dv 2)) da_nil)))))) .nil))))))
    (s_one (s_ret dn)))) (fun ds M Q E h => by repeat (first | (obtain ⟨e, _⟩ := h; exact congrArg List.length e) | (obtain ⟨_, h⟩ := h))) (rd_law_told_97da AD)
theorem sc_law_point_due : FnScope ["_law_model", "_law_deed_here", "_law_points", "_law_near", "_law_row", "_law_name", "_law_term"] ["_law_model", "_law_deed_here"] (defScope s_law_point_due) := ⟨rfl, rfl, rfl, by decide +kernel, rfl, by decide +kernel, by decide +kernel⟩
theorem ok_law_point_due (F : FunD K "_law_point_due" "_law_point_due" (defArgs s_law_point_due) (defBody s_law_point_due) (defScope s_law_point_due) [] [] f fd) (b : Txt K mg CR) (T : RatT P w K mg base CR) : FnOk P w K mg base (L2.CX P w) 41 f fd ["_law_model", "_law_deed_here"] (lSp K CR sp_law_point_due) :=
  okD F sc_law_point_due (fun cdv A outer s H E hr => (s_cons (s_set (i := 2) sc_law_point_due.nd (d_dget hr (dv 0) ds))
    (s_cons (s_if (t_bool (w_and (t_cmp (o_eqP hr.units) (d_ix (dv 1) di) ds) (w_and1 (t_cmp (o_inP (hu65 hr)) (d_ix (dv 1) di) (dv 2)))))
    (s_one (s_ret (d_tup (da_cons ds (da_cons (d_ix (dv 1) di) da_nil)))))
    s_nil)
    (s_cons (s_if (t_bool (w_and (t_cmp (o_eqP hr.units) (d_ix (dv 1) di) ds) (w_and1 (t_cmp (o_eqP hr.units) (d_B c_len b.f_len (da_cons (dv 2) da_nil)) di))))
    (s_one (s_ret (d_tup (da_cons ds (da_cons ds da_nil)))))
    s_nil)
    (s_cons (s_if (t_bool (w_and (t_cmp (o_neP hr.units) (d_ix (dv 1) di) ds) (w_and1 (t_cmp (o_notInP (hu65 hr)) (d_ix (dv 1) di) (dv 2)))))
    (s_one (s_ret (d_tup (da_cons ds (da_cons (d_ix (dv 1) di) da_nil)))))
    s_nil)
    (s_cons (s_set (i := 3) sc_law_point_due.nd (d_Ty c_dictK b.f_dict (da_cons (d_dget hr (dv 0) ds) da_nil)))
    (s_cons (s_if (t_cmp (o_eqP hr.units) (d_ix (dv 1) di) ds)
    (s_cons (s_for PassesOwn.never rfl (i_it (d_dget hr (dv 0) ds)) (g_nm (i := 4) sc_law_point_due.nd)
    (s_one (s_if (t_cmp (o_inP (hu65 hr)) (d_ix (dv 1) di) (d_lc (own := [("_law_term", 6)]) (g := (gName 6)) rfl sc_law_point_due.nd (i_it (d_ix (dv 4) di)) (by kernel_rfl) (cg_nm (j := 6) (by decide)) (mono_nm (j := 6)) (fun _ _ _ _ _ => (pg_name (i := 6) sc_law_point_due.nd rfl (by first | exact Or.inl rfl | exact Or.inr rfl))) (fun _ _ _ _ _ => ts_nil) (fun _ _ _ _ _ => (d_ix (dv 6) di))))
    (s_one (s_ret (d_tup (da_cons ds (da_cons ds da_nil)))))
    s_nil)))
    (s_cons (s_dput hr (dv 0) ds (d_lc (own := [("_law_name", 5)]) (g := (gName 5)) rfl sc_law_point_due.nd (i_it (dv 2)) (by kernel_rfl) (cg_nm (j := 5) (by decide)) (mono_nm (j := 5)) (fun _ _ _ _ _ => (pg_name (i := 5) sc_law_point_due.nd rfl (by first | exact Or.inl rfl | exact Or.inr rfl))) (fun _ _ _ _ _ => (ts_one (t_cmp (o_neP hr.units) (dv 5) (d_ix (dv 1) di)))) (fun _ _ _ _ _ => (dv 5))))
    (s_one (s_ret dn))))
    s_nil)
    (s_cons (s_if (t_cmp (o_eqP hr.units) (d_ix (dv 1) di) ds)
    (s_one (s_dput hr (dv 0) ds (d_op o_addP (dv 2) (d_lst (da_cons (d_ix (dv 1) di) da_nil)))))
    s_nil)
    (s_cons (s_dput hr (dv 3) (d_ix (dv 1) di) (d_ix (dv 1) di))
    (s_cons (s_dput hr (dv 0) ds (dv 3))
    (s_one (s_ret dn)))))))))))) (fun ds M Q E h => by repeat (first | (obtain ⟨e, _⟩ := h; exact congrArg List.length e) | (obtain ⟨_, h⟩ := h))) rd_law_point_due
theorem sc_law_terms_fit : FnScope ["_law_terms_here", "_law_before", "_law_name", "_law_coefficient"] ["_law_terms_here"] (defScope s_law_terms_fit) := ⟨rfl, rfl, rfl, by decide +kernel, rfl, by decide +kernel, by decide +kernel⟩
theorem ok_law_terms_fit (F : FunD K "_law_terms_fit" "_law_terms_fit" (defArgs s_law_terms_fit) (defBody s_law_terms_fit) (defScope s_law_terms_fit) [] [] f fd) (b : Txt K mg CR) (T : RatT P w K mg base CR) : FnOk P w K mg base (L2.CX P w) 41 f fd ["_law_terms_here"] (lSp K CR sp_law_terms_fit) :=
  okD F sc_law_terms_fit (fun cdv A outer s H E hr => (s_cons (s_set (i := 1) sc_law_terms_fit.nd ds)
    (s_cons (s_for PassesOwn.never rfl (i_it (dv 0)) (g_tu rfl (gs_cons (g_nm (i := 2) sc_law_terms_fit.nd) (gs_cons (g_nm (i := 3) sc_law_terms_fit.nd) gs_nil)))
    (s_cons (s_if (t_bool (w_or (t_cmp (o_eqP hr.units) (dv 3) di) (w_or (t_cmp o_lt (dv 3) (d_un o_negI di)) (w_or (t_cmp o_gt (dv 3) di) (w_or1 (t_not (t_cmp o_ltS (dv 1) (dv 2))))))))
    (s_one (s_ret db))
    s_nil)
    (s_one (s_set (i := 1) sc_law_terms_fit.nd (dv 2)))))
    (s_one (s_ret (d_cmp o_gt (d_B c_len b.f_len (da_cons (dv 0) da_nil)) di)))))) (fun ds M Q E h => by repeat (first | (obtain ⟨e, _⟩ := h; exact congrArg List.length e) | (obtain ⟨_, h⟩ := h))) rd_law_terms_fit
theorem sc_law_reading_due : FnScope ["_law_model", "_law_deed_here", "_law_name", "_law_coefficient", "_law_row"] ["_law_model", "_law_deed_here"] (defScope s_law_reading_due) := ⟨rfl, rfl, rfl, by decide +kernel, rfl, by decide +kernel, by decide +kernel⟩
theorem ok_law_reading_due (F : FunD K "_law_reading_due" "_law_reading_due" (defArgs s_law_reading_due) (defBody s_law_reading_due) (defScope s_law_reading_due) [] [] f fd) (b : Txt K mg CR) (T : RatT P w K mg base CR) (F_law_terms_fit : Def P w K mg base CR 41 "_law_terms_fit" ["_law_terms_here"] sp_law_terms_fit) : FnOk P w K mg base (L2.CX P w) 42 f fd ["_law_model", "_law_deed_here"] (lSp K CR sp_law_reading_due) :=
  okD F sc_law_reading_due (fun cdv A outer s H E hr => (s_cons (s_if (t_cmp (o_inP (hu65 hr)) (d_ix (dv 1) di) (d_lc (own := [("_law_row", 4)]) (g := (gName 4)) rfl sc_law_reading_due.nd (i_it (d_dget hr (dv 0) ds)) (by kernel_rfl) (cg_nm (j := 4) (by decide)) (mono_nm (j := 4)) (fun _ _ _ _ _ => (pg_name (i := 4) sc_law_reading_due.nd rfl (by first | exact Or.inl rfl | exact Or.inr rfl))) (fun _ _ _ _ _ => ts_nil) (fun _ _ _ _ _ => (d_ix (dv 4) di))))
    (s_one (s_ret (d_tup (da_cons ds (da_cons (d_ix (dv 1) di) da_nil)))))
    s_nil)
    (s_cons (s_if (t_not (t_tru (d_call F_law_terms_fit (hr.mono (by decide)) (da_cons (d_ix (dv 1) di) da_nil))))
    (s_one (s_ret (d_tup (da_cons ds (da_cons ds da_nil)))))
    s_nil)
    (s_cons (s_for PassesOwn.never rfl (i_it (d_ix (dv 1) di)) (g_tu rfl (gs_cons (g_nm (i := 2) sc_law_reading_due.nd) (gs_cons (g_nm (i := 3) sc_law_reading_due.nd) gs_nil)))
    (s_one (s_if (t_cmp (o_notInP (hu65 hr)) (dv 2) (d_dget hr (dv 0) ds))
    (s_one (s_ret (d_tup (da_cons ds (da_cons (dv 2) da_nil)))))
    s_nil)))
    (s_cons (s_if (t_cmp o_le (d_ix (d_ix (dv 1) di) di) di)
    (s_one (s_ret (d_tup (da_cons ds (da_cons ds da_nil)))))
    s_nil)
    (s_cons (s_if (t_cmp (o_eqP hr.units) (d_B c_len b.f_len (da_cons (d_dget hr (dv 0) ds) da_nil)) di)
    (s_one (s_ret (d_tup (da_cons ds (da_cons ds da_nil)))))
    s_nil)
    (s_cons (s_dput hr (dv 0) ds (d_op o_addP (d_dget hr (dv 0) ds) (d_lst (da_cons (d_sl (dv 1) (po_someD di) po_noneD) da_nil))))
    (s_one (s_ret dn))))))))) (fun ds M Q E h => by repeat (first | (obtain ⟨e, _⟩ := h; exact congrArg List.length e) | (obtain ⟨_, h⟩ := h))) rd_law_reading_due
theorem sc_law_due_9bdd : FnScope ["_law_model", "_law_deed_here", "_law_rows", "_law_places", "_law_at", "_law_row", "_law_k"] ["_law_model", "_law_deed_here"] (defScope s_law_due_9bdd) := ⟨rfl, rfl, rfl, by decide +kernel, rfl, by decide +kernel, by decide +kernel⟩
theorem ok_law_due_9bdd (F : FunD K "_law_due" "_law_due" (defArgs s_law_due_9bdd) (defBody s_law_due_9bdd) (defScope s_law_due_9bdd) [] [] f fd) (b : Txt K mg CR) (T : RatT P w K mg base CR) (F_law_point_due : Def P w K mg base CR 41 "_law_point_due" ["_law_model", "_law_deed_here"] sp_law_point_due) (F_law_reading_due : Def P w K mg base CR 42 "_law_reading_due" ["_law_model", "_law_deed_here"] sp_law_reading_due) : FnOk P w K mg base (L2.CX P w) 43 f fd ["_law_model", "_law_deed_here"] (lSp K CR sp_law_due_9bdd) :=
  okD F sc_law_due_9bdd (fun cdv A outer s H E hr => (s_cons (s_if (t_cmp (o_eqP hr.units) (d_ix (dv 1) di) ds)
    (s_one (s_ret (d_call F_law_reading_due (hr.mono (by decide)) (da_cons (dv 0) (da_cons (dv 1) da_nil)))))
    s_nil)
    (s_cons (s_if (t_bool (w_or (t_cmp (o_eqP hr.units) (d_ix (dv 1) di) ds) (w_or (t_cmp (o_eqP hr.units) (d_ix (dv 1) di) ds) (w_or1 (t_cmp (o_eqP hr.units) (d_ix (dv 1) di) ds)))))
    (s_one (s_ret (d_call F_law_point_due (hr.mono (by decide)) (da_cons (dv 0) (da_cons (dv 1) da_nil)))))
    s_nil)
    (s_cons (s_set (i := 2) sc_law_due_9bdd.nd (d_dget hr (dv 0) ds))
    (s_cons (s_setLc (i := 3) (own := [("_law_k", 6)]) (g := (gName 6)) rfl sc_law_due_9bdd.nd (i_rng1 b.f_range (da_cons (d_B c_len b.f_len (da_cons (dv 2) da_nil)) da_nil)) (by kernel_rfl) (cg_nm (j := 6) (by decide)) (mono_nm (j := 6)) (fun _ _ _ _ _ => (pg_name (i := 6) sc_law_due_9bdd.nd rfl (by first | exact Or.inl rfl | exact Or.inr rfl))) (fun _ _ _ _ _ => (ts_one (t_cmp (o_eqP hr.units) (d_ix (d_ix (dv 2) (dv 6)) di) (d_ix (dv 1) di)))) (fun _ _ _ _ _ => (dv 6)) (sw_true rfl rfl rfl (by kernel_rfl)))
    (s_cons (s_if (t_cmp (o_eqP hr.units) (d_B c_len b.f_len (da_cons (dv 3) da_nil)) di)
    (s_one (s_ret (d_tup (da_cons ds (da_cons (d_ix (dv 1) di) da_nil)))))
    s_nil)
    (s_cons (s_set (i := 4) sc_law_due_9bdd.nd (d_ix (dv 3) di))
    (s_cons (s_set (i := 5) sc_law_due_9bdd.nd (d_ix (dv 2) (dv 4)))
    (s_cons (s_if (t_cmp (o_eqP hr.units) (d_ix (dv 1) di) ds)
    (s_cons (s_dput hr (dv 0) ds (d_op o_addP (d_sl (dv 2) po_noneD (po_someD (dv 4))) (d_sl (dv 2) (po_someD (d_op o_addP (dv 4) di)) po_noneD)))
    (s_one (s_ret dn)))
    s_nil)
    (s_cons (s_if (t_bool (w_and (t_cmp (o_eqP hr.units) (d_ix (dv 1) di) ds) (w_and1 (t_cmp o_le (d_ix (d_ix (dv 1) di) di) di))))
    (s_one (s_ret (d_tup (da_cons ds (da_cons ds da_nil)))))
    s_nil)
    (s_cons (s_if (t_cmp (o_eqP hr.units) (d_ix (dv 1) di) ds)
    (s_one (s_set (i := 5) sc_law_due_9bdd.nd (d_tup (da_cons (d_ix (dv 5) di) (da_cons (d_ix (dv 5) di) (da_cons (d_ix (dv 5) di) (da_cons (d_ix (dv 1) di) da_nil)))))))
    (s_one (s_set (i := 5) sc_law_due_9bdd.nd (d_tup (da_cons (d_ix (dv 5) di) (da_cons (d_ix (dv 5) di) (da_cons (d_ix (dv 1) di) (da_cons (d_ix (dv 5) di) da_nil))))))))
    (s_cons (s_dput hr (dv 0) ds (d_op o_addP (d_op o_addP (d_sl (dv 2) po_noneD (po_someD (dv 4))) (d_lst (da_cons (dv 5) da_nil))) (d_sl (dv 2) (po_someD (d_op o_addP (dv 4) di)) po_noneD)))
    (s_one (s_ret dn)))))))))))))) (fun ds M Q E h => by repeat (first | (obtain ⟨e, _⟩ := h; exact congrArg List.length e) | (obtain ⟨_, h⟩ := h))) rd_law_due_9bdd
theorem sc_law_spoilt : FnScope ["_law_state", "_law_terms_here", "_law_way"] ["_law_state", "_law_terms_here"] (defScope s_law_spoilt) := ⟨rfl, rfl, rfl, by decide +kernel, rfl, by decide +kernel, by decide +kernel⟩
theorem ok_law_spoilt (F : FunD K "_law_spoilt" "_law_spoilt" (defArgs s_law_spoilt) (defBody s_law_spoilt) (defScope s_law_spoilt) [] [] f fd) (b : Txt K mg CR) (T : RatT P w K mg base CR) (F_law_take_65a1 : Def P w K mg base CR 42 "_law_take" ["_law_state", "_law_many"] sp_law_take_65a1) : FnOk P w K mg base (L2.CX P w) 43 f fd ["_law_state", "_law_terms_here"] (lSp K CR sp_law_spoilt) :=
  okD F sc_law_spoilt (fun cdv A outer s H E hr => (s_cons (s_set (i := 2) sc_law_spoilt.nd (d_call F_law_take_65a1 (hr.mono (by decide)) (da_cons (dv 0) (da_cons di da_nil))))
    (s_cons (s_if (t_bool (w_or (t_cmp (o_eqP hr.units) (dv 2) di) (w_or1 (t_cmp (o_eqP hr.units) (d_B c_len b.f_len (da_cons (dv 1) da_nil)) di))))
    (s_one (s_ret (d_tup da_nil)))
    s_nil)
    (s_cons (s_if (t_cmp (o_eqP hr.units) (dv 2) di)
    (s_one (s_ret (d_op o_catT (dv 1) (d_sl (dv 1) po_noneD (po_someD di)))))
    s_nil)
    (s_cons (s_if (t_cmp (o_eqP hr.units) (dv 2) di)
    (s_one (s_ret (d_op o_catT (d_rev (dv 1) (d_un o_negI di)) (d_tup (da_cons (d_tup (da_cons ds (da_cons di da_nil))) da_nil)))))
    s_nil)
    (s_cons (s_if (t_cmp (o_eqP hr.units) (dv 2) di)
    (s_one (s_ret (d_op o_catT (d_tup (da_cons (d_tup (da_cons (d_ix (d_ix (dv 1) di) di) (da_cons (d_ix (d_lst (da_cons di (da_cons di (da_cons (d_un o_negI di) da_nil)))) (d_call F_law_take_65a1 (hr.mono (by decide)) (da_cons (dv 0) (da_cons di da_nil)))) da_nil))) da_nil)) (d_sl (dv 1) (po_someD di) po_noneD))))
    s_nil)
    (s_cons (s_if (t_cmp (o_eqP hr.units) (dv 2) di)
    (s_one (s_ret (d_op o_catT (dv 1) (d_tup (da_cons (d_tup (da_cons ds (da_cons di da_nil))) da_nil)))))
    s_nil)
    (s_one (s_ret (d_op o_catT (d_tup (da_cons (d_tup (da_cons ds (da_cons di da_nil))) da_nil)) (dv 1))))))))))) (fun ds M Q E h => by repeat (first | (obtain ⟨e, _⟩ := h; exact congrArg List.length e) | (obtain ⟨_, h⟩ := h))) rd_law_spoilt
theorem sc_law_menu : FnScope [] [] (defScope s_law_menu) := ⟨rfl, rfl, rfl, by decide +kernel, rfl, by decide +kernel, by decide +kernel⟩
theorem ok_law_menu (F : FunD K "_law_menu" "_law_menu" (defArgs s_law_menu) (defBody s_law_menu) (defScope s_law_menu) [] [] f fd) (b : Txt K mg CR) (T : RatT P w K mg base CR) : FnOk P w K mg base (L2.CX P w) 41 f fd [] (lSp K CR sp_law_menu) :=
  okD F sc_law_menu (fun cdv A outer s H E hr => (s_one (s_ret (d_lst (da_cons ds (da_cons ds (da_cons ds (da_cons ds (da_cons ds (da_cons ds (da_cons ds (da_cons ds (da_cons ds (da_cons ds (da_cons ds (da_cons ds (da_cons ds da_nil))))))))))))))))) (fun ds M Q E h => by repeat (first | (obtain ⟨e, _⟩ := h; exact congrArg List.length e) | (obtain ⟨_, h⟩ := h))) rd_law_menu
theorem sc_law_terms_5923 : FnScope ["_law_state", "_law_names", "_law_terms_here", "_law_name"] ["_law_state", "_law_names"] (defScope s_law_terms_5923) := ⟨rfl, rfl, rfl, by decide +kernel, rfl, by decide +kernel, by decide +kernel⟩
theorem ok_law_terms_5923 (F : FunD K "_law_terms" "_law_terms" (defArgs s_law_terms_5923) (defBody s_law_terms_5923) (defScope s_law_terms_5923) [] [] f fd) (b : Txt K mg CR) (T : RatT P w K mg base CR) (F_law_take_65a1 : Def P w K mg base CR 42 "_law_take" ["_law_state", "_law_many"] sp_law_take_65a1) (F_law_menu : Def P w K mg base CR 41 "_law_menu" [] sp_law_menu) : FnOk P w K mg base (L2.CX P w) 43 f fd ["_law_state", "_law_names"] (lSp K CR sp_law_terms_5923) :=
  okD F sc_law_terms_5923 (fun cdv A outer s H E hr => (s_cons (s_set (i := 2) sc_law_terms_5923.nd (d_lstR da_nil))
    (s_cons (s_for PassesOwn.never rfl (i_it (d_call0 F_law_menu (hr.mono (by decide)))) (g_nm (i := 3) sc_law_terms_5923.nd)
    (s_one (s_if (t_bool (w_and (t_cmp (o_inP (hu65 hr)) (dv 3) (dv 1)) (w_and (t_cmp o_gt (d_call F_law_take_65a1 (hr.mono (by decide)) (da_cons (dv 0) (da_cons di da_nil))) di) (w_and1 (t_cmp o_lt (d_B c_len b.f_len (da_cons (dv 2) da_nil)) di)))))
    (s_one (s_expr (d_app (pe_bm PySem.F.plainAttrs_list PySem.F.slot_list_append PySem.F.type_list_append mt_append (dv 2) (da_cons (d_tup (da_cons (dv 3) (da_cons (d_ix (d_lst (da_cons di (da_cons (d_un o_negI di) (da_cons (d_un o_negI di) (da_cons di (da_cons di (da_cons (d_un o_negI di) (da_cons di (da_cons (d_un o_negI di) da_nil))))))))) (d_call F_law_take_65a1 (hr.mono (by decide)) (da_cons (dv 0) (da_cons di da_nil)))) da_nil))) da_nil)))))
    s_nil)))
    (s_cons (s_if (t_bool (w_and (t_cmp (o_eqP hr.units) (d_B c_len b.f_len (da_cons (dv 2) da_nil)) di) (w_and1 (t_cmp o_gt (d_B c_len b.f_len (da_cons (dv 1) da_nil)) di))))
    (s_one (s_expr (d_app (pe_bm PySem.F.plainAttrs_list PySem.F.slot_list_append PySem.F.type_list_append mt_append (dv 2) (da_cons (d_tup (da_cons (d_ix (dv 1) (d_call F_law_take_65a1 (hr.mono (by decide)) (da_cons (dv 0) (da_cons (d_B c_len b.f_len (da_cons (dv 1) da_nil)) da_nil)))) (da_cons di da_nil))) da_nil)))))
    s_nil)
    (s_one (s_ret (d_Ty c_tuple b.f_tuple (da_cons (dv 2) da_nil)))))))) (fun ds M Q E h => by repeat (first | (obtain ⟨e, _⟩ := h; exact congrArg List.length e) | (obtain ⟨_, h⟩ := h))) rd_law_terms_5923
theorem sc_law_common : FnScope ["_law_one", "_law_other", "_law_k", "_law_rest"] ["_law_one", "_law_other"] (defScope s_law_common) := ⟨rfl, rfl, rfl, by decide +kernel, rfl, by decide +kernel, by decide +kernel⟩
theorem ok_law_common (F : FunD K "_law_common" "_law_common" (defArgs s_law_common) (defBody s_law_common) (defScope s_law_common) [] [] f fd) (b : Txt K mg CR) (T : RatT P w K mg base CR) : FnOk P w K mg base (L2.CX P w) 41 f fd ["_law_one", "_law_other"] (lSp K CR sp_law_common) :=
  okD F sc_law_common (fun cdv A outer s H E hr => (s_cons (s_for PassesOwn.never rfl (i_rng1 b.f_range (da_cons (d_op o_addP (d_op o_mulI di (d_bits (dv 1))) di) da_nil)) (g_nm (i := 2) sc_law_common.nd)
    (s_cons (s_if (t_cmp (o_eqP hr.units) (dv 1) di)
    (s_one s_break)
    s_nil)
    (s_cons (s_set (i := 3) sc_law_common.nd (d_op o_mod (d_Ty c_int b.f_int (da_cons (dv 0) da_nil)) (dv 1)))
    (s_cons (s_set (i := 0) sc_law_common.nd (dv 1))
    (s_one (s_set (i := 1) sc_law_common.nd (dv 3)))))))
    (s_one (s_ret (dv 0))))) (fun ds M Q E h => by repeat (first | (obtain ⟨e, _⟩ := h; exact congrArg List.length e) | (obtain ⟨_, h⟩ := h))) rd_law_common
theorem sc_law_pair_e2e7 : FnScope ["_law_top", "_law_bottom", "_law_common_here"] ["_law_top", "_law_bottom"] (defScope s_law_pair_e2e7) := ⟨rfl, rfl, rfl, by decide +kernel, rfl, by decide +kernel, by decide +kernel⟩
theorem ok_law_pair_e2e7 (F : FunD K "_law_pair" "_law_pair" (defArgs s_law_pair_e2e7) (defBody s_law_pair_e2e7) (defScope s_law_pair_e2e7) [] [] f fd) (b : Txt K mg CR) (T : RatT P w K mg base CR) (F_law_common : Def P w K mg base CR 41 "_law_common" ["_law_one", "_law_other"] sp_law_common) : FnOk P w K mg base (L2.CX P w) 42 f fd ["_law_top", "_law_bottom"] (lSp K CR sp_law_pair_e2e7) :=
  okD F sc_law_pair_e2e7 (fun cdv A outer s H E hr => (s_cons (s_set (i := 2) sc_law_pair_e2e7.nd (d_call F_law_common (hr.mono (by decide)) (da_cons (d_B c_absI b.f_abs (da_cons (dv 0) da_nil)) (da_cons (dv 1) da_nil))))
    (s_one (s_ret (d_tup (da_cons (d_op o_fdiv (dv 0) (dv 2)) (da_cons (d_op o_fdiv (dv 1) (dv 2)) da_nil))))))) (fun ds M Q E h => by repeat (first | (obtain ⟨e, _⟩ := h; exact congrArg List.length e) | (obtain ⟨_, h⟩ := h))) rd_law_pair_e2e7
theorem sc_law_weight_f3c6 : FnScope ["_law_state"] ["_law_state"] (defScope s_law_weight_f3c6) := ⟨rfl, rfl, rfl, by decide +kernel, rfl, by decide +kernel, by decide +kernel⟩
theorem ok_law_weight_f3c6 (F : FunD K "_law_weight" "_law_weight" (defArgs s_law_weight_f3c6) (defBody s_law_weight_f3c6) (defScope s_law_weight_f3c6) [] [] f fd) (b : Txt K mg CR) (T : RatT P w K mg base CR) (F_law_pair_e2e7 : Def P w K mg base CR 42 "_law_pair" ["_law_top", "_law_bottom"] sp_law_pair_e2e7) (F_law_take_65a1 : Def P w K mg base CR 42 "_law_take" ["_law_state", "_law_many"] sp_law_take_65a1) : FnOk P w K mg base (L2.CX P w) 43 f fd ["_law_state"] (lSp K CR sp_law_weight_f3c6) :=
  okD F sc_law_weight_f3c6 (fun cdv A outer s H E hr => (s_one (s_ret (d_call F_law_pair_e2e7 (hr.mono (by decide)) (da_cons (d_op o_addP di (d_call F_law_take_65a1 (hr.mono (by decide)) (da_cons (dv 0) (da_cons di da_nil)))) (da_cons (d_op o_addP di (d_call F_law_take_65a1 (hr.mono (by decide)) (da_cons (dv 0) (da_cons di da_nil)))) da_nil)))))) (fun ds M Q E h => by repeat (first | (obtain ⟨e, _⟩ := h; exact congrArg List.length e) | (obtain ⟨_, h⟩ := h))) rd_law_weight_f3c6
theorem sc_law_number_d14e : FnScope ["_law_state"] ["_law_state"] (defScope s_law_number_d14e) := ⟨rfl, rfl, rfl, by decide +kernel, rfl, by decide +kernel, by decide +kernel⟩
theorem ok_law_number_d14e (F : FunD K "_law_number" "_law_number" (defArgs s_law_number_d14e) (defBody s_law_number_d14e) (defScope s_law_number_d14e) [] [] f fd) (b : Txt K mg CR) (T : RatT P w K mg base CR) (F_law_pair_e2e7 : Def P w K mg base CR 42 "_law_pair" ["_law_top", "_law_bottom"] sp_law_pair_e2e7) (F_law_take_65a1 : Def P w K mg base CR 42 "_law_take" ["_law_state", "_law_many"] sp_law_take_65a1) : FnOk P w K mg base (L2.CX P w) 43 f fd ["_law_state"] (lSp K CR sp_law_number_d14e) :=
  okD F sc_law_number_d14e (fun cdv A outer s H E hr => (s_cons (s_if (t_cmp (o_eqP hr.units) (d_call F_law_take_65a1 (hr.mono (by decide)) (da_cons (dv 0) (da_cons di da_nil))) di)
    (s_one (s_ret (d_call F_law_pair_e2e7 (hr.mono (by decide)) (da_cons (d_op o_subI (d_op o_pow (d_call F_law_take_65a1 (hr.mono (by decide)) (da_cons (dv 0) (da_cons di da_nil))) di) (d_op o_pow (d_call F_law_take_65a1 (hr.mono (by decide)) (da_cons (dv 0) (da_cons di da_nil))) di)) (da_cons (d_op o_addP di (d_op o_pow (d_call F_law_take_65a1 (hr.mono (by decide)) (da_cons (dv 0) (da_cons di da_nil))) di)) da_nil)))))
    s_nil)
    (s_one (s_ret (d_call F_law_pair_e2e7 (hr.mono (by decide)) (da_cons (d_op o_subI (d_call F_law_take_65a1 (hr.mono (by decide)) (da_cons (dv 0) (da_cons di da_nil))) di) (da_cons (d_op o_addP di (d_call F_law_take_65a1 (hr.mono (by decide)) (da_cons (dv 0) (da_cons di da_nil)))) da_nil))))))) (fun ds M Q E h => by repeat (first | (obtain ⟨e, _⟩ := h; exact congrArg List.length e) | (obtain ⟨_, h⟩ := h))) rd_law_number_d14e
theorem sc_law_deed : FnScope ["_law_state", "_law_names", "_law_marks", "_law_words", "_law_word", "_law_name", "_law_mark", "_law_number_here", "_law_weight_here", "_law_terms_here"] ["_law_state", "_law_names", "_law_marks"] (defScope s_law_deed) := ⟨rfl, rfl, rfl, by decide +kernel, rfl, by decide +kernel, by decide +kernel⟩
theorem ok_law_deed (F : FunD K "_law_deed" "_law_deed" (defArgs s_law_deed) (defBody s_law_deed) (defScope s_law_deed) [] [] f fd) (b : Txt K mg CR) (T : RatT P w K mg base CR) (F_law_take_65a1 : Def P w K mg base CR 42 "_law_take" ["_law_state", "_law_many"] sp_law_take_65a1) (F_law_spoilt : Def P w K mg base CR 43 "_law_spoilt" ["_law_state", "_law_terms_here"] sp_law_spoilt) (F_law_terms_5923 : Def P w K mg base CR 43 "_law_terms" ["_law_state", "_law_names"] sp_law_terms_5923) (F_law_weight_f3c6 : Def P w K mg base CR 43 "_law_weight" ["_law_state"] sp_law_weight_f3c6) (F_law_number_d14e : Def P w K mg base CR 43 "_law_number" ["_law_state"] sp_law_number_d14e) (F_law_menu : Def P w K mg base CR 41 "_law_menu" [] sp_law_menu) : FnOk P w K mg base (L2.CX P w) 44 f fd ["_law_state", "_law_names", "_law_marks"] (lSp K CR sp_law_deed) :=
  okD F sc_law_deed (fun cdv A outer s H E hr => (s_cons (s_set (i := 3) sc_law_deed.nd (d_lst (da_cons ds (da_cons ds (da_cons ds (da_cons ds (da_cons ds (da_cons ds (da_cons ds (da_cons ds (da_cons ds (da_cons ds da_nil))))))))))))
    (s_cons (s_set (i := 4) sc_law_deed.nd (d_ix (dv 3) (d_call F_law_take_65a1 (hr.mono (by decide)) (da_cons (dv 0) (da_cons di da_nil)))))
    (s_cons (s_set (i := 5) sc_law_deed.nd (d_ix (d_call0 F_law_menu (hr.mono (by decide))) (d_call F_law_take_65a1 (hr.mono (by decide)) (da_cons (dv 0) (da_cons di da_nil)))))
    (s_cons (s_if (t_bool (w_and (t_cmp o_gt (d_B c_len b.f_len (da_cons (dv 1) da_nil)) di) (w_and (t_cmp o_gt (d_call F_law_take_65a1 (hr.mono (by decide)) (da_cons (dv 0) (da_cons di da_nil))) di) (w_and1 (t_cmp (o_neP hr.units) (dv 4) ds)))))
    (s_one (s_set (i := 5) sc_law_deed.nd (d_ix (dv 1) (d_call F_law_take_65a1 (hr.mono (by decide)) (da_cons (dv 0) (da_cons (d_B c_len b.f_len (da_cons (dv 1) da_nil)) da_nil))))))
    s_nil)
    (s_cons (s_set (i := 6) sc_law_deed.nd (d_ix (d_lst (da_cons ds (da_cons ds (da_cons ds (da_cons ds (da_cons ds (da_cons ds (da_cons ds da_nil)))))))) (d_call F_law_take_65a1 (hr.mono (by decide)) (da_cons (dv 0) (da_cons di da_nil)))))
    (s_cons (s_if (t_bool (w_and (t_cmp o_gt (d_B c_len b.f_len (da_cons (dv 2) da_nil)) di) (w_and (t_cmp o_gt (d_call F_law_take_65a1 (hr.mono (by decide)) (da_cons (dv 0) (da_cons di da_nil))) di) (w_and1 (t_cmp (o_neP hr.units) (dv 4) ds)))))
    (s_one (s_set (i := 6) sc_law_deed.nd (d_ix (dv 2) (d_call F_law_take_65a1 (hr.mono (by decide)) (da_cons (dv 0) (da_cons (d_B c_len b.f_len (da_cons (dv 2) da_nil)) da_nil))))))
    s_nil)
    (s_cons (s_set (i := 7) sc_law_deed.nd (d_call F_law_number_d14e (hr.mono (by decide)) (da_cons (dv 0) da_nil)))
    (s_cons (s_set (i := 8) sc_law_deed.nd (d_call F_law_weight_f3c6 (hr.mono (by decide)) (da_cons (dv 0) da_nil)))
    (s_cons (s_if (t_cmp (o_eqP hr.units) (d_call F_law_take_65a1 (hr.mono (by decide)) (da_cons (dv 0) (da_cons di da_nil))) di)
    (s_one (s_set (i := 8) sc_law_deed.nd (d_tup (da_cons (d_op o_subI di (d_call F_law_take_65a1 (hr.mono (by decide)) (da_cons (dv 0) (da_cons di da_nil)))) (da_cons di da_nil)))))
    s_nil)
    (s_cons (s_if (t_cmp (o_eqP hr.units) (dv 4) ds)
    (s_cons (s_set (i := 9) sc_law_deed.nd (d_call F_law_terms_5923 (hr.mono (by decide)) (da_cons (dv 0) (da_cons (dv 1) da_nil))))
    (s_cons (s_if (t_cmp (o_eqP hr.units) (d_call F_law_take_65a1 (hr.mono (by decide)) (da_cons (dv 0) (da_cons di da_nil))) di)
    (s_one (s_set (i := 9) sc_law_deed.nd (d_call F_law_spoilt (hr.mono (by decide)) (da_cons (dv 0) (da_cons (dv 9) da_nil)))))
    s_nil)
    (s_one (s_ret (d_tup (da_cons (dv 4) (da_cons (dv 6) (da_cons (dv 9) (da_cons (dv 7) (da_cons (dv 8) da_nil))))))))))
    s_nil)
    (s_cons (s_if (t_bool (w_or (t_cmp (o_eqP hr.units) (dv 4) ds) (w_or1 (t_cmp (o_eqP hr.units) (dv 4) ds))))
    (s_one (s_ret (d_tup (da_cons (dv 4) (da_cons (dv 5) (da_cons (dv 7) da_nil))))))
    s_nil)
    (s_cons (s_if (t_cmp (o_eqP hr.units) (dv 4) ds)
    (s_one (s_ret (d_tup (da_cons (dv 4) (da_cons (dv 6) (da_cons (dv 7) da_nil))))))
    s_nil)
    (s_cons (s_if (t_cmp (o_eqP hr.units) (dv 4) ds)
    (s_one (s_ret (d_tup (da_cons (dv 4) (da_cons (dv 6) (da_cons (dv 8) da_nil))))))
    s_nil)
    (s_cons (s_if (t_cmp (o_eqP hr.units) (dv 4) ds)
    (s_one (s_ret (d_tup (da_cons (dv 4) (da_cons (dv 6) da_nil)))))
    s_nil)
    (s_one (s_ret (d_tup (da_cons (dv 4) (da_cons (dv 5) da_nil)))))))))))))))))))) (fun ds M Q E h => by repeat (first | (obtain ⟨e, _⟩ := h; exact congrArg List.length e) | (obtain ⟨_, h⟩ := h))) rd_law_deed
theorem sc_law_row_is : FnScope ["_law_row", "_law_points", "_law_terms_here", "_law_k", "_law_due_here", "_law_term"] ["_law_row", "_law_points", "_law_terms_here"] (defScope s_law_row_is) := ⟨rfl, rfl, rfl, by decide +kernel, rfl, by decide +kernel, by decide +kernel⟩
theorem ok_law_row_is (F : FunD K "_law_row_is" "_law_row_is" (defArgs s_law_row_is) (defBody s_law_row_is) (defScope s_law_row_is) [] [] f fd) (b : Txt K mg CR) (T : RatT P w K mg base CR) (F_law_is : Def P w K mg base CR 41 "_law_is" ["_law_actual", "_law_pair_here"] sp_law_is) : FnOk P w K mg base (L2.CX P w) 42 f fd ["_law_row", "_law_points", "_law_terms_here"] (lSp K CR sp_law_row_is) :=
  okD F sc_law_row_is (fun cdv A outer s H E hr => (s_cons (s_if (t_bool (w_or (t_not (t_tru (d_B c_isi b.f_isinstance (da_cons (dv 0) (da_cons (d_ty b.f_tuple) da_nil))))) (w_or1 (t_cmp (o_neP hr.units) (d_B c_len b.f_len (da_cons (dv 0) da_nil)) (d_B c_len b.f_len (da_cons (dv 1) da_nil))))))
    (s_one (s_ret db))
    s_nil)
    (s_cons (s_for PassesOwn.never rfl (i_rng1 b.f_range (da_cons (d_B c_len b.f_len (da_cons (dv 1) da_nil)) da_nil)) (g_nm (i := 3) sc_law_row_is.nd)
    (s_cons (s_set (i := 4) sc_law_row_is.nd (d_B (c_sumD rfl) b.f_sum (da_cons (d_lc (own := [("_law_term", 5)]) (g := (gName 5)) rfl sc_law_row_is.nd (i_it (dv 2)) (by kernel_rfl) (cg_nm (j := 5) (by decide)) (mono_nm (j := 5)) (fun _ _ _ _ _ => (pg_name (i := 5) sc_law_row_is.nd rfl (by first | exact Or.inl rfl | exact Or.inr rfl))) (fun _ _ _ _ _ => (ts_one (t_cmp (o_eqP hr.units) (d_ix (dv 5) di) (d_ix (dv 1) (dv 3))))) (fun _ _ _ _ _ => (d_ix (dv 5) di))) da_nil)))
    (s_one (s_if (t_not (t_tru (d_call F_law_is (hr.mono (by decide)) (da_cons (d_ix (dv 0) (dv 3)) (da_cons (d_tup (da_cons (dv 4) (da_cons di da_nil))) da_nil)))))
    (s_one (s_ret db))
    s_nil))))
    (s_one (s_ret db))))) (fun ds M Q E h => by repeat (first | (obtain ⟨e, _⟩ := h; exact congrArg List.length e) | (obtain ⟨_, h⟩ := h))) rd_law_row_is
theorem sc_row_of : FnScope ["book", "reading", "found", "name"] ["book", "reading"] (defScope s_row_of) := ⟨rfl, rfl, rfl, by decide +kernel, rfl, by decide +kernel, by decide +kernel⟩
theorem ok_row_of (F : FunD K "row_of" "row_of" (defArgs s_row_of) (defBody s_row_of) (defScope s_row_of) [] [] f fd) (b : Txt K mg CR) (T : RatT P w K mg base CR) (BK : BkT K AD) (EK : EkT P w K mg base AD) (AP : ApT K AD)  : FnOk P w K mg base (L2.CX P w) 41 f fd ["book", "reading"] (lSp K CR (sp_row_of AD)) :=
  okD F sc_row_of (fun cdv A outer s H E hr => (s_cons (s_set (i := 2) sc_row_of.nd (d_Ty (c_dictT rfl) b.f_dict (da_cons (d_fld (okC := (· = AD.rd)) (fun C h => by subst h; exact ⟨BK.rc, BK.terms⟩) (dv 1)) da_nil)))
    (s_one (s_ret (d_Ty c_tuple b.f_tuple (da_cons (d_lc (own := [("name", 3)]) (g := (gName 3)) rfl sc_row_of.nd (i_it (d_fld (okC := (· = AD.bk)) (fun C h => by subst h; exact ⟨BK.bc, BK.points⟩) (dv 0))) (by kernel_rfl) (cg_nm (j := 3) (by decide)) (mono_nm (j := 3)) (fun _ _ _ _ _ => (pg_name (i := 3) sc_row_of.nd rfl (by first | exact Or.inl rfl | exact Or.inr rfl))) (fun _ _ _ _ _ => ts_nil) (fun _ _ _ _ _ => (T.ini.d_mk T.g (hr.mono (by decide)) (da_cons (d_dget2 hr (dv 2) (dv 3) di) da_nil)))) da_nil)))))) (fun ds M Q E h => by repeat (first | (obtain ⟨e, _⟩ := h; exact congrArg List.length e) | (obtain ⟨_, h⟩ := h))) (rd_row_of AD)
theorem sc_law_tape : FnScope ["_law_script", "_law_tape_here", "_law_cell", "_law_number_here", "_law_k", "_law_first"] ["_law_script"] (defScope s_law_tape) := ⟨rfl, rfl, rfl, by decide +kernel, rfl, by decide +kernel, by decide +kernel⟩
theorem ok_law_tape (F : FunD K "_law_tape" "_law_tape" (defArgs s_law_tape) (defBody s_law_tape) (defScope s_law_tape) [] [] f fd) (b : Txt K mg CR) (T : RatT P w K mg base CR) : FnOk P w K mg base (L2.CX P w) 41 f fd ["_law_script"] (lSp K CR sp_law_tape) :=
  okD F sc_law_tape (fun cdv A outer s H E hr => (s_cons (s_set (i := 1) sc_law_tape.nd (d_lstR da_nil))
    (s_cons (s_for PassesOwn.never rfl (i_it (dv 0)) (g_nm (i := 2) sc_law_tape.nd)
    (s_cons (s_set (i := 3) sc_law_tape.nd (d_op o_mulI di (d_Ty c_int b.f_int (da_cons (dv 2) da_nil))))
    (s_cons (s_if (t_cmp o_lt (dv 3) di)
    (s_one (s_set (i := 3) sc_law_tape.nd (d_op o_subI (d_un o_negI di) (dv 3))))
    s_nil)
    (s_one (s_if (t_cmp o_ge (dv 3) (d_op o_pow di di))
    (s_one (s_for PassesOwn.never rfl (i_rng1 b.f_range (da_cons di da_nil)) (g_nm (i := 4) sc_law_tape.nd)
    (s_one (s_if (t_cmp o_gt (dv 3) di)
    (s_cons (s_expr (d_app (pe_bm PySem.F.plainAttrs_list PySem.F.slot_list_append PySem.F.type_list_append mt_append (dv 1) (da_cons (d_op o_mod (d_Ty c_int b.f_int (da_cons (dv 3) da_nil)) di) da_nil))))
    (s_one (s_set (i := 3) sc_law_tape.nd (d_op o_fdiv (dv 3) di))))
    s_nil))))
    (s_one (s_for PassesOwn.never rfl (i_rng1 b.f_range (da_cons di da_nil)) (g_nm (i := 4) sc_law_tape.nd)
    (s_cons (s_set (i := 5) sc_law_tape.nd (d_op o_mod (d_Ty c_int b.f_int (da_cons (d_op o_addP (d_op o_addP (d_op o_mulI (dv 3) di) (d_op o_mulI (dv 4) di)) di) da_nil)) di))
    (s_one (s_expr (d_app (pe_bm PySem.F.plainAttrs_list PySem.F.slot_list_append PySem.F.type_list_append mt_append (dv 1) (da_cons (d_op o_mod (d_Ty c_int b.f_int (da_cons (d_op o_addP (d_op o_mulI (dv 5) di) (d_op o_fdiv (dv 5) di)) da_nil)) di) da_nil)))))))))))))
    (s_one (s_retF (dv 1)))))) (fun ds M Q E h => by repeat (first | (obtain ⟨e, _⟩ := h; exact congrArg List.length e) | (obtain ⟨_, h⟩ := h))) rd_law_tape
theorem sc_law_7d45 : FnScope ["_law_script", "_law_state", "_law_book", "_law_model", "_law_k", "_law_twin", "_law_other", "_law_deed_here", "_law_row"] ["_law_script"] (defScope s_law_7d45) := ⟨rfl, rfl, rfl, by decide +kernel, rfl, by decide +kernel, by decide +kernel⟩
theorem ok_law_7d45 (F : FunD K "law" "law" (defArgs s_law_7d45) (defBody s_law_7d45) (defScope s_law_7d45) [] [] f fd) (b : Txt K mg CR) (T : RatT P w K mg base CR) (BK : BkT K AD) (EK : EkT P w K mg base AD) (AP : ApT K AD) (M_Book_twin_083b : MethC P w K mg base CR 43 AD.bk "twin" ["self"] (sp_Book_twin_083b AD)) (N_Book___init__ : MkC P w K mg base CR 41 "Book" AD.bk ["self"] (sp_Book___init__ AD)) (F_law_agrees : Def P w K mg base CR 43 "_law_agrees" ["_law_book", "_law_model"] (sp_law_agrees AD)) (F_law_take_65a1 : Def P w K mg base CR 42 "_law_take" ["_law_state", "_law_many"] sp_law_take_65a1) (F_law_told_97da : Def P w K mg base CR 45 "_law_told" ["_law_thing", "_law_deed_here"] (sp_law_told_97da AD)) (F_law_due_9bdd : Def P w K mg base CR 43 "_law_due" ["_law_model", "_law_deed_here"] sp_law_due_9bdd) (F_law_deed : Def P w K mg base CR 44 "_law_deed" ["_law_state", "_law_names", "_law_marks"] sp_law_deed) (F_law_row_is : Def P w K mg base CR 42 "_law_row_is" ["_law_row", "_law_points", "_law_terms_here"] sp_law_row_is) (F_row_of : Def P w K mg base CR 41 "row_of" ["book", "reading"] (sp_row_of AD)) (F_law_tape : Def P w K mg base CR 41 "_law_tape" ["_law_script"] sp_law_tape) : FnOk P w K mg base (L2.CX P w) 46 f fd ["_law_script"] (lSp K CR sp_law_7d45) :=
  okD F sc_law_7d45 (fun cdv A outer s H E hr => (s_cons (s_set (i := 1) sc_law_7d45.nd (d_lstR (da_cons (d_call F_law_tape (hr.mono (by decide)) (da_cons (dv 0) da_nil)) (da_cons di da_nil))))
    (s_cons (s_set (i := 2) sc_law_7d45.nd (d_mkR0 N_Book___init__ hr))
    (s_cons (s_set (i := 3) sc_law_7d45.nd (d_ddisp (.cons ds (d_lst da_nil) (.cons ds d_dnew (.cons ds (d_lst da_nil) .nil))) (by decide) rfl rfl rfl (by decide) (by decide) (by decide)))
    (s_cons (s_for PassesOwn.never rfl (i_rng1 b.f_range (da_cons (d_call F_law_take_65a1 (hr.mono (by decide)) (da_cons (dv 1) (da_cons di da_nil))) da_nil)) (g_nm (i := 4) sc_law_7d45.nd)
    (s_cons (s_set (i := 7) sc_law_7d45.nd (d_call F_law_deed (hr.mono (by decide)) (da_cons (dv 1) (da_cons (d_dget hr (dv 3) ds) (da_cons (d_lc (own := [("_law_row", 8)]) (g := (gName 8)) rfl sc_law_7d45.nd (i_it (d_dget hr (dv 3) ds)) (by kernel_rfl) (cg_nm (j := 8) (by decide)) (mono_nm (j := 8)) (fun _ _ _ _ _ => (pg_name (i := 8) sc_law_7d45.nd rfl (by first | exact Or.inl rfl | exact Or.inr rfl))) (fun _ _ _ _ _ => ts_nil) (fun _ _ _ _ _ => (d_ix (dv 8) di))) da_nil)))))
    (s_cons (s_expr (d_call F_law_told_97da (hr.mono (by decide)) (da_cons (dv 2) (da_cons (dv 7) da_nil))))
    (s_one (s_expr (d_call F_law_due_9bdd (hr.mono (by decide)) (da_cons (dv 3) (da_cons (dv 7) da_nil))))))))
    (s_cons (s_for PassesOwn.never rfl (i_rng1 b.f_range (da_cons (d_B c_len b.f_len (da_cons (d_fld (okC := (· = AD.bk)) (fun C h => by subst h; exact ⟨BK.bc, BK.readings⟩) (dv 2)) da_nil)) da_nil)) (g_nm (i := 4) sc_law_7d45.nd)
    (s_one (s_if (t_not (t_tru (d_call F_law_row_is (hr.mono (by decide)) (da_cons (d_call F_row_of (hr.mono (by decide)) (da_cons (dv 2) (da_cons (d_ix (d_fld (okC := (· = AD.bk)) (fun C h => by subst h; exact ⟨BK.bc, BK.readings⟩) (dv 2)) (dv 4)) da_nil))) (da_cons (d_dget hr (dv 3) ds) (da_cons (d_ix (d_ix (d_dget hr (dv 3) ds) (dv 4)) di) da_nil))))))
    (s_one (s_ret db))
    s_nil)))
    (s_cons (s_set (i := 5) sc_law_7d45.nd (d_methC0 M_Book_twin_083b hr takes0 (dv 2)))
    (s_cons (s_set (i := 6) sc_law_7d45.nd (d_ddisp (.cons ds (d_Ty c_list b.f_list (da_cons (d_dget hr (dv 3) ds) da_nil)) (.cons ds (d_Ty c_dictK b.f_dict (da_cons (d_dget hr (dv 3) ds) da_nil)) (.cons ds (d_Ty c_list b.f_list (da_cons (d_dget hr (dv 3) ds) da_nil)) .nil))) (by decide) rfl rfl rfl (by decide) (by decide) (by decide)))
    (s_cons (s_for PassesOwn.never rfl (i_rng1 b.f_range (da_cons (d_call F_law_take_65a1 (hr.mono (by decide)) (da_cons (dv 1) (da_cons di da_nil))) da_nil)) (g_nm (i := 4) sc_law_7d45.nd)
    (s_cons (s_set (i := 7) sc_law_7d45.nd (d_call F_law_deed (hr.mono (by decide)) (da_cons (dv 1) (da_cons (d_dget hr (dv 6) ds) (da_cons (d_lc (own := [("_law_row", 8)]) (g := (gName 8)) rfl sc_law_7d45.nd (i_it (d_dget hr (dv 6) ds)) (by kernel_rfl) (cg_nm (j := 8) (by decide)) (mono_nm (j := 8)) (fun _ _ _ _ _ => (pg_name (i := 8) sc_law_7d45.nd rfl (by first | exact Or.inl rfl | exact Or.inr rfl))) (fun _ _ _ _ _ => ts_nil) (fun _ _ _ _ _ => (d_ix (dv 8) di))) da_nil)))))
    (s_cons (s_if (t_cmp (o_eqP hr.units) (d_call F_law_take_65a1 (hr.mono (by decide)) (da_cons (dv 1) (da_cons di da_nil))) di)
    (s_one (s_if (t_cmp (o_neP hr.units) (d_call F_law_told_97da (hr.mono (by decide)) (da_cons (dv 2) (da_cons (dv 7) da_nil))) (d_call F_law_due_9bdd (hr.mono (by decide)) (da_cons (dv 3) (da_cons (dv 7) da_nil))))
    (s_one (s_ret db))
    s_nil))
    (s_one (s_if (t_cmp (o_neP hr.units) (d_call F_law_told_97da (hr.mono (by decide)) (da_cons (dv 5) (da_cons (dv 7) da_nil))) (d_call F_law_due_9bdd (hr.mono (by decide)) (da_cons (dv 6) (da_cons (dv 7) da_nil))))
    (s_one (s_ret db))
    s_nil)))
    (s_one (s_if (t_bool (w_or (t_not (t_tru (d_call F_law_agrees (hr.mono (by decide)) (da_cons (dv 2) (da_cons (dv 3) da_nil))))) (w_or1 (t_not (t_tru (d_call F_law_agrees (hr.mono (by decide)) (da_cons (dv 5) (da_cons (dv 6) da_nil))))))))
    (s_one (s_ret db))
    s_nil)))))
    (s_one (s_ret (v_and (d_call F_law_agrees (hr.mono (by decide)) (da_cons (dv 2) (da_cons (dv 3) da_nil))) (v_one (d_call F_law_agrees (hr.mono (by decide)) (da_cons (dv 5) (da_cons (dv 6) da_nil)))))))))))))))) (fun ds M Q E h => by repeat (first | (obtain ⟨e, _⟩ := h; exact congrArg List.length e) | (obtain ⟨_, h⟩ := h))) (rd_law_7d45 AD AP.nd)
end
theorem facts {P : Program} {w : World} {K : PySem.W.Frag} {h : Heap} {mg : Str → Option Value} {f : Addr} (X : K.In h) (G : h.Ns mainGlobals mg) (hfa : mg ("law" : Str) = some (.ref f)) (c : He.SaysD fa fn K) (cr : ratCk K = true) (pt : P.given.tree = none) (c_dup : errB K "DuplicateName" "name" = true) (c_badr : errB K "BadReading" "reason" = true) (c_up : errB K "UnknownPoint" "name" = true) (c_ur : errB K "UnknownReading" "name" = true) (c_lim : errB K "LimitReached" "what" = true) (c_ap : apB K errNames = true) :
    ∃ fd : FuncData, (∀ (s : Shared) (v : Value), BindsTo s fd ⟨[v], []⟩ [("_law_script", v)]) ∧ ∀ base : Heap, K.In base → base.Ns mainGlobals mg → FnOk P w K mg base (L2.CX P w) 46 f fd ["_law_script"] (lSp K (He.ga K "Ratio") sp_law_7d45) := by
  obtain ⟨fd_Book_add_point_7c4f, U_Book_add_point_7c4f⟩ := c.def_ 0 (d := d_Book_add_point_7c4f) rfl
  obtain ⟨fd_Book___init__, U_Book___init__⟩ := c.def_ 1 (d := d_Book___init__) rfl
  obtain ⟨fd_Book_twin_083b, U_Book_twin_083b⟩ := c.def_ 2 (d := d_Book_twin_083b) rfl
  obtain ⟨fd_law_is, U_law_is⟩ := c.def_ 3 (d := d_law_is) rfl
  obtain ⟨fd_law_reading_is, U_law_reading_is⟩ := c.def_ 4 (d := d_law_reading_is) rfl
  obtain ⟨fd_law_agrees, U_law_agrees⟩ := c.def_ 5 (d := d_law_agrees) rfl
  obtain ⟨fd_law_draw_e832, U_law_draw_e832⟩ := c.def_ 6 (d := d_law_draw_e832) rfl
  obtain ⟨fd_law_take_65a1, U_law_take_65a1⟩ := c.def_ 7 (d := d_law_take_65a1) rfl
  obtain ⟨fd_Reading___init__, U_Reading___init__⟩ := c.def_ 8 (d := d_Reading___init__) rfl
  obtain ⟨fd_Book_require_point, U_Book_require_point⟩ := c.def_ 9 (d := d_Book_require_point) rfl
  obtain ⟨fd_terms_fit, U_terms_fit⟩ := c.def_ 10 (d := d_terms_fit) rfl
  obtain ⟨fd_Book_add_reading_3063, U_Book_add_reading_3063⟩ := c.def_ 11 (d := d_Book_add_reading_3063) rfl
  obtain ⟨fd_Book_change_approximation_15c5, U_Book_change_approximation_15c5⟩ := c.def_ 12 (d := d_Book_change_approximation_15c5) rfl
  obtain ⟨fd_Book_place_of, U_Book_place_of⟩ := c.def_ 13 (d := d_Book_place_of) rfl
  obtain ⟨fd_Book_change_value_4165, U_Book_change_value_4165⟩ := c.def_ 14 (d := d_Book_change_value_4165) rfl
  obtain ⟨fd_Book_change_weight_d0e6, U_Book_change_weight_d0e6⟩ := c.def_ 15 (d := d_Book_change_weight_d0e6) rfl
  obtain ⟨fd_Book_withdraw_8f01, U_Book_withdraw_8f01⟩ := c.def_ 16 (d := d_Book_withdraw_8f01) rfl
  obtain ⟨fd_Book_remove_point_5cca, U_Book_remove_point_5cca⟩ := c.def_ 17 (d := d_Book_remove_point_5cca) rfl
  obtain ⟨fd_law_made_9a1d, U_law_made_9a1d⟩ := c.def_ 18 (d := d_law_made_9a1d) rfl
  obtain ⟨fd_law_call, U_law_call⟩ := c.def_ 19 (d := d_law_call) rfl
  obtain ⟨fd_law_told_97da, U_law_told_97da⟩ := c.def_ 20 (d := d_law_told_97da) rfl
  obtain ⟨fd_law_point_due, U_law_point_due⟩ := c.def_ 21 (d := d_law_point_due) rfl
  obtain ⟨fd_law_terms_fit, U_law_terms_fit⟩ := c.def_ 22 (d := d_law_terms_fit) rfl
  obtain ⟨fd_law_reading_due, U_law_reading_due⟩ := c.def_ 23 (d := d_law_reading_due) rfl
  obtain ⟨fd_law_due_9bdd, U_law_due_9bdd⟩ := c.def_ 24 (d := d_law_due_9bdd) rfl
  obtain ⟨fd_law_spoilt, U_law_spoilt⟩ := c.def_ 25 (d := d_law_spoilt) rfl
  obtain ⟨fd_law_menu, U_law_menu⟩ := c.def_ 26 (d := d_law_menu) rfl
  obtain ⟨fd_law_terms_5923, U_law_terms_5923⟩ := c.def_ 27 (d := d_law_terms_5923) rfl
  obtain ⟨fd_law_common, U_law_common⟩ := c.def_ 28 (d := d_law_common) rfl
  obtain ⟨fd_law_pair_e2e7, U_law_pair_e2e7⟩ := c.def_ 29 (d := d_law_pair_e2e7) rfl
  obtain ⟨fd_law_weight_f3c6, U_law_weight_f3c6⟩ := c.def_ 30 (d := d_law_weight_f3c6) rfl
  obtain ⟨fd_law_number_d14e, U_law_number_d14e⟩ := c.def_ 31 (d := d_law_number_d14e) rfl
  obtain ⟨fd_law_deed, U_law_deed⟩ := c.def_ 32 (d := d_law_deed) rfl
  obtain ⟨fd_law_row_is, U_law_row_is⟩ := c.def_ 33 (d := d_law_row_is) rfl
  obtain ⟨fd_row_of, U_row_of⟩ := c.def_ 34 (d := d_row_of) rfl
  obtain ⟨fd_law_tape, U_law_tape⟩ := c.def_ 35 (d := d_law_tape) rfl
  obtain ⟨fd_law_7d45, U_law_7d45⟩ := c.def_ 36 (d := d_law_7d45) rfl
  obtain ⟨fd_Ratio___init__, U_Ratio___init__⟩ := c.def_ 37 (d := d_Ratio___init__) rfl
  obtain ⟨fd_Ratio___add__, U_Ratio___add__⟩ := c.def_ 38 (d := d_Ratio___add__) rfl
  obtain ⟨fd_Ratio___sub__, U_Ratio___sub__⟩ := c.def_ 39 (d := d_Ratio___sub__) rfl
  obtain ⟨fd_Ratio___mul__, U_Ratio___mul__⟩ := c.def_ 40 (d := d_Ratio___mul__) rfl
  obtain ⟨fd_Ratio___neg__, U_Ratio___neg__⟩ := c.def_ 41 (d := d_Ratio___neg__) rfl
  obtain ⟨fd_Ratio___eq__, U_Ratio___eq__⟩ := c.def_ 42 (d := d_Ratio___eq__) rfl
  obtain ⟨fd_Ratio___lt__, U_Ratio___lt__⟩ := c.def_ 43 (d := d_Ratio___lt__) rfl
  obtain ⟨fd_Ratio___le__, U_Ratio___le__⟩ := c.def_ 44 (d := d_Ratio___le__) rfl
  obtain ⟨fd_Ratio___gt__, U_Ratio___gt__⟩ := c.def_ 45 (d := d_Ratio___gt__) rfl
  obtain ⟨fd_Ratio___ge__, U_Ratio___ge__⟩ := c.def_ 46 (d := d_Ratio___ge__) rfl
  obtain ⟨fd_Ratio___abs__, U_Ratio___abs__⟩ := c.def_ 47 (d := d_Ratio___abs__) rfl
  obtain ⟨fd_DuplicateName___init__, U_DuplicateName___init__⟩ := c.def_ 48 (d := d_DuplicateName___init__) rfl
  obtain ⟨fd_BadReading___init__, U_BadReading___init__⟩ := c.def_ 49 (d := d_BadReading___init__) rfl
  obtain ⟨fd_UnknownPoint___init__, U_UnknownPoint___init__⟩ := c.def_ 50 (d := d_UnknownPoint___init__) rfl
  obtain ⟨fd_UnknownReading___init__, U_UnknownReading___init__⟩ := c.def_ 51 (d := d_UnknownReading___init__) rfl
  obtain ⟨fd_LimitReached___init__, U_LimitReached___init__⟩ := c.def_ 52 (d := d_LimitReached___init__) rfl
  have e := hfa.symm.trans (He.glo_ok X G (c.fact 24 (f := .glo "law") rfl))
  cases e
  have bt := FunD.bindsA (ps := ["_law_script"]) U_law_7d45 fun _ _ _ _ _ _ us hl => match us, hl with | [_], _ => rfl
  have b : Txt K mg (He.ga K "Ratio") := ⟨ratCk_gcd X G cr, He.free_ok X G (c.fact 25 (f := .free "isinstance") rfl), He.free_ok X G (c.fact 26 (f := .free "abs") rfl), He.free_ok X G (c.fact 27 (f := .free "len") rfl), He.int_ok X G (c.fact 28 (f := .int "MOST_POINTS" (12)) rfl), He.free_ok X G (c.fact 29 (f := .free "int") rfl), He.free_ok X G (c.fact 30 (f := .free "bool") rfl), He.free_ok X G (c.fact 31 (f := .free "tuple") rfl), He.free_ok X G (c.fact 32 (f := .free "range") rfl), He.free_ok X G (c.fact 33 (f := .free "list") rfl), He.int_ok X G (c.fact 34 (f := .int "MOST_COEFFICIENT" (9)) rfl), He.int_ok X G (c.fact 35 (f := .int "MOST_READINGS" (24)) rfl), He.free_ok X G (c.fact 36 (f := .free "enumerate") rfl), He.free_ok X G (c.fact 37 (f := .free "dict") rfl), He.free_ok X G (c.fact 38 (f := .free "sum") rfl)⟩
  refine ⟨fd_law_7d45, fun s v => bt s [v] rfl, fun base _ _ => ?_⟩
  have T0 : RatT0 P w K mg base (He.ga K "Ratio") := ⟨He.cls_ok (c.fact 39 (f := .cls "Ratio") rfl), He.noat_ok (c.fact 40 (f := .noat "Ratio" "top") rfl), He.noat_ok (c.fact 41 (f := .noat "Ratio" "bottom") rfl), He.glo_ok X G (c.fact 42 (f := .glo "Ratio") rfl), ratCk_first cr, ratCk_isf cr, mkOk_of (st := s_Ratio___init__) (x := "__init__") (qual := "Ratio.__init__") U_Ratio___init__ (He.mkr_ok (c.fact 43 (f := .mkr "Ratio") rfl)) (ok_Ratio___init__ U_Ratio___init__ b (He.cls_ok (c.fact 39 (f := .cls "Ratio") rfl)) (He.noat_ok (c.fact 40 (f := .noat "Ratio" "top") rfl)) (He.noat_ok (c.fact 41 (f := .noat "Ratio" "bottom") rfl)) (ratCk_seer cr) pt) fun T kV doc pm an cdv ct a b c d => ⟨⟨_, rfl, rfl⟩, ⟨_, rfl, rfl⟩⟩⟩
  have T : RatT P w K mg base (He.ga K "Ratio") := ⟨T0, op2_of (st := s_Ratio___add__) (x := "__add__") (qual := "Ratio.__add__") U_Ratio___add__ (He.meth_ok (c.fact 44 (f := .meth "Ratio" "__add__") rfl)) (ok_Ratio___add__ U_Ratio___add__ b T0) fun _ _ _ _ _ _ _ _ => rfl,
    op2_of (st := s_Ratio___sub__) (x := "__sub__") (qual := "Ratio.__sub__") U_Ratio___sub__ (He.meth_ok (c.fact 45 (f := .meth "Ratio" "__sub__") rfl)) (ok_Ratio___sub__ U_Ratio___sub__ b T0) fun _ _ _ _ _ _ _ _ => rfl,
    op2_of (st := s_Ratio___mul__) (x := "__mul__") (qual := "Ratio.__mul__") U_Ratio___mul__ (He.meth_ok (c.fact 46 (f := .meth "Ratio" "__mul__") rfl)) (ok_Ratio___mul__ U_Ratio___mul__ b T0) fun _ _ _ _ _ _ _ _ => rfl,
    op1_of (st := s_Ratio___neg__) (x := "__neg__") (qual := "Ratio.__neg__") U_Ratio___neg__ (He.meth_ok (c.fact 47 (f := .meth "Ratio" "__neg__") rfl)) (ok_Ratio___neg__ U_Ratio___neg__ b T0) fun _ _ _ _ _ _ _ => rfl,
    op2_of (st := s_Ratio___eq__) (x := "__eq__") (qual := "Ratio.__eq__") U_Ratio___eq__ (He.meth_ok (c.fact 48 (f := .meth "Ratio" "__eq__") rfl)) (ok_Ratio___eq__ U_Ratio___eq__ b T0) fun _ _ _ _ _ _ _ _ => rfl,
    op2_of (st := s_Ratio___lt__) (x := "__lt__") (qual := "Ratio.__lt__") U_Ratio___lt__ (He.meth_ok (c.fact 49 (f := .meth "Ratio" "__lt__") rfl)) (ok_Ratio___lt__ U_Ratio___lt__ b T0) fun _ _ _ _ _ _ _ _ => rfl,
    op2_of (st := s_Ratio___le__) (x := "__le__") (qual := "Ratio.__le__") U_Ratio___le__ (He.meth_ok (c.fact 50 (f := .meth "Ratio" "__le__") rfl)) (ok_Ratio___le__ U_Ratio___le__ b T0) fun _ _ _ _ _ _ _ _ => rfl,
    op2_of (st := s_Ratio___gt__) (x := "__gt__") (qual := "Ratio.__gt__") U_Ratio___gt__ (He.meth_ok (c.fact 51 (f := .meth "Ratio" "__gt__") rfl)) (ok_Ratio___gt__ U_Ratio___gt__ b T0) fun _ _ _ _ _ _ _ _ => rfl,
    op2_of (st := s_Ratio___ge__) (x := "__ge__") (qual := "Ratio.__ge__") U_Ratio___ge__ (He.meth_ok (c.fact 52 (f := .meth "Ratio" "__ge__") rfl)) (ok_Ratio___ge__ U_Ratio___ge__ b T0) fun _ _ _ _ _ _ _ _ => rfl,
    op1_of (st := s_Ratio___abs__) (x := "__abs__") (qual := "Ratio.__abs__") U_Ratio___abs__ (He.meth_ok (c.fact 53 (f := .meth "Ratio" "__abs__") rfl)) (ok_Ratio___abs__ U_Ratio___abs__ b T0) fun _ _ _ _ _ _ _ => rfl⟩
  have BK : BkT K (adOf K) := ⟨He.cls_ok (c.fact 55 (f := .cls "Reading") rfl), He.cls_ok (c.fact 54 (f := .cls "Book") rfl), He.noat_ok (c.fact 60 (f := .noat "Reading" "name") rfl), He.noat_ok (c.fact 61 (f := .noat "Reading" "terms") rfl), He.noat_ok (c.fact 62 (f := .noat "Reading" "value") rfl), He.noat_ok (c.fact 63 (f := .noat "Reading" "weight") rfl), He.noat_ok (c.fact 64 (f := .noat "Book" "points") rfl), He.noat_ok (c.fact 65 (f := .noat "Book" "approximations") rfl), He.noat_ok (c.fact 66 (f := .noat "Book" "readings") rfl)⟩
  have BE_dup := errB_ok X G c_dup
  have ET_dup : ErrT P w K mg base "DuplicateName" (He.ga K "DuplicateName") "name" := errT_of (st := s_DuplicateName___init__) (qual := "DuplicateName.__init__") BE_dup U_DuplicateName___init__ (ok_DuplicateName___init__ U_DuplicateName___init__ BE_dup.o BE_dup.no) fun _ _ _ _ _ _ _ _ => rfl
  have BE_badr := errB_ok X G c_badr
  have ET_badr : ErrT P w K mg base "BadReading" (He.ga K "BadReading") "reason" := errT_of (st := s_BadReading___init__) (qual := "BadReading.__init__") BE_badr U_BadReading___init__ (ok_BadReading___init__ U_BadReading___init__ BE_badr.o BE_badr.no) fun _ _ _ _ _ _ _ _ => rfl
  have BE_up := errB_ok X G c_up
  have ET_up : ErrT P w K mg base "UnknownPoint" (He.ga K "UnknownPoint") "name" := errT_of (st := s_UnknownPoint___init__) (qual := "UnknownPoint.__init__") BE_up U_UnknownPoint___init__ (ok_UnknownPoint___init__ U_UnknownPoint___init__ BE_up.o BE_up.no) fun _ _ _ _ _ _ _ _ => rfl
  have BE_ur := errB_ok X G c_ur
  have ET_ur : ErrT P w K mg base "UnknownReading" (He.ga K "UnknownReading") "name" := errT_of (st := s_UnknownReading___init__) (qual := "UnknownReading.__init__") BE_ur U_UnknownReading___init__ (ok_UnknownReading___init__ U_UnknownReading___init__ BE_ur.o BE_ur.no) fun _ _ _ _ _ _ _ _ => rfl
  have BE_lim := errB_ok X G c_lim
  have ET_lim : ErrT P w K mg base "LimitReached" (He.ga K "LimitReached") "what" := errT_of (st := s_LimitReached___init__) (qual := "LimitReached.__init__") BE_lim U_LimitReached___init__ (ok_LimitReached___init__ U_LimitReached___init__ BE_lim.o BE_lim.no) fun _ _ _ _ _ _ _ _ => rfl
  have EK : EkT P w K mg base (adOf K) := ⟨ET_dup, ET_badr, ET_up, ET_ur, ET_lim⟩
  have AP := apB_ok c_ap
  have M_Book_add_point_7c4f : MethC P w K mg base (He.ga K "Ratio") 41 (adOf K).bk "add_point" ["self", "name", "approximation"] (sp_Book_add_point_7c4f (adOf K)) := methC_of (st := s_Book_add_point_7c4f) (x := "add_point") (qual := "Book.add_point") U_Book_add_point_7c4f BK.bc (He.meth_ok (c.fact 67 (f := .meth "Book" "add_point") rfl)) (ok_Book_add_point_7c4f U_Book_add_point_7c4f b T (BK) (EK) (AP)) fun _ _ _ _ _ _ us hl => match us, hl with | [_, _, _], _ => rfl
  have N_Book___init__ : MkC P w K mg base (He.ga K "Ratio") 41 "Book" (adOf K).bk ["self"] (sp_Book___init__ (adOf K)) := mkC_of (st := s_Book___init__) (x := "__init__") (qual := "Book.__init__") U_Book___init__ (He.glo_ok X G (c.fact 56 (f := .glo "Book") rfl)) (He.mkr_ok (c.fact 58 (f := .mkr "Book") rfl)) (ok_Book___init__ U_Book___init__ b T (BK) (EK) (AP)) fun _ _ _ _ _ _ us hl => match us, hl with | [_], _ => rfl
  have M_Book_twin_083b : MethC P w K mg base (He.ga K "Ratio") 43 (adOf K).bk "twin" ["self"] (sp_Book_twin_083b (adOf K)) := methC_of (st := s_Book_twin_083b) (x := "twin") (qual := "Book.twin") U_Book_twin_083b BK.bc (He.meth_ok (c.fact 68 (f := .meth "Book" "twin") rfl)) (ok_Book_twin_083b U_Book_twin_083b b T (BK) (EK) (AP) M_Book_add_point_7c4f N_Book___init__) fun _ _ _ _ _ _ us hl => match us, hl with | [_], _ => rfl
  have G_law_is : Def P w K mg base (He.ga K "Ratio") 41 "_law_is" ["_law_actual", "_law_pair_here"] sp_law_is := def_mk (st := s_law_is) (qual := "_law_is") U_law_is (He.glo_ok X G (c.fact 0 (f := .glo "_law_is") rfl)) (ok_law_is U_law_is b T) fun _ _ _ _ _ _ us hl => match us, hl with | [_, _], _ => rfl
  have G_law_reading_is : Def P w K mg base (He.ga K "Ratio") 42 "_law_reading_is" ["_law_reading", "_law_row"] (sp_law_reading_is (adOf K)) := def_mk (st := s_law_reading_is) (qual := "_law_reading_is") U_law_reading_is (He.glo_ok X G (c.fact 1 (f := .glo "_law_reading_is") rfl)) (ok_law_reading_is U_law_reading_is b T (BK) (EK) (AP) G_law_is) fun _ _ _ _ _ _ us hl => match us, hl with | [_, _], _ => rfl
  have G_law_agrees : Def P w K mg base (He.ga K "Ratio") 43 "_law_agrees" ["_law_book", "_law_model"] (sp_law_agrees (adOf K)) := def_mk (st := s_law_agrees) (qual := "_law_agrees") U_law_agrees (He.glo_ok X G (c.fact 2 (f := .glo "_law_agrees") rfl)) (ok_law_agrees U_law_agrees b T (BK) (EK) (AP) G_law_reading_is G_law_is) fun _ _ _ _ _ _ us hl => match us, hl with | [_, _], _ => rfl
  have G_law_draw_e832 : Def P w K mg base (He.ga K "Ratio") 41 "_law_draw" ["_law_tape_here", "_law_at", "_law_many"] sp_law_draw_e832 := def_mk (st := s_law_draw_e832) (qual := "_law_draw") U_law_draw_e832 (He.glo_ok X G (c.fact 3 (f := .glo "_law_draw") rfl)) (ok_law_draw_e832 U_law_draw_e832 b T) fun _ _ _ _ _ _ us hl => match us, hl with | [_, _, _], _ => rfl
  have G_law_take_65a1 : Def P w K mg base (He.ga K "Ratio") 42 "_law_take" ["_law_state", "_law_many"] sp_law_take_65a1 := def_mk (st := s_law_take_65a1) (qual := "_law_take") U_law_take_65a1 (He.glo_ok X G (c.fact 4 (f := .glo "_law_take") rfl)) (ok_law_take_65a1 U_law_take_65a1 b T G_law_draw_e832) fun _ _ _ _ _ _ us hl => match us, hl with | [_, _], _ => rfl
  have N_Reading___init__ : MkC P w K mg base (He.ga K "Ratio") 41 "Reading" (adOf K).rd ["self", "name", "terms", "value", "weight"] (sp_Reading___init__ (adOf K)) := mkC_of (st := s_Reading___init__) (x := "__init__") (qual := "Reading.__init__") U_Reading___init__ (He.glo_ok X G (c.fact 57 (f := .glo "Reading") rfl)) (He.mkr_ok (c.fact 59 (f := .mkr "Reading") rfl)) (ok_Reading___init__ U_Reading___init__ b T (BK) (EK) (AP)) fun _ _ _ _ _ _ us hl => match us, hl with | [_, _, _, _, _], _ => rfl
  have M_Book_require_point : MethC P w K mg base (He.ga K "Ratio") 41 (adOf K).bk "require_point" ["self", "name"] (sp_Book_require_point (adOf K)) := methC_of (st := s_Book_require_point) (x := "require_point") (qual := "Book.require_point") U_Book_require_point BK.bc (He.meth_ok (c.fact 69 (f := .meth "Book" "require_point") rfl)) (ok_Book_require_point U_Book_require_point b T (BK) (EK) (AP)) fun _ _ _ _ _ _ us hl => match us, hl with | [_, _], _ => rfl
  have G_terms_fit : Def P w K mg base (He.ga K "Ratio") 41 "terms_fit" ["terms"] sp_terms_fit := def_mk (st := s_terms_fit) (qual := "terms_fit") U_terms_fit (He.glo_ok X G (c.fact 5 (f := .glo "terms_fit") rfl)) (ok_terms_fit U_terms_fit b T) fun _ _ _ _ _ _ us hl => match us, hl with | [_], _ => rfl
  have M_Book_add_reading_3063 : MethC P w K mg base (He.ga K "Ratio") 43 (adOf K).bk "add_reading" ["self", "name", "terms", "value", "weight"] (sp_Book_add_reading_3063 (adOf K)) := methC_of (st := s_Book_add_reading_3063) (x := "add_reading") (qual := "Book.add_reading") U_Book_add_reading_3063 BK.bc (He.meth_ok (c.fact 70 (f := .meth "Book" "add_reading") rfl)) (ok_Book_add_reading_3063 U_Book_add_reading_3063 b T (BK) (EK) (AP) N_Reading___init__ M_Book_require_point G_terms_fit) fun _ _ _ _ _ _ us hl => match us, hl with | [_, _, _, _, _], _ => rfl
  have M_Book_change_approximation_15c5 : MethC P w K mg base (He.ga K "Ratio") 42 (adOf K).bk "change_approximation" ["self", "name", "approximation"] (sp_Book_change_approximation_15c5 (adOf K)) := methC_of (st := s_Book_change_approximation_15c5) (x := "change_approximation") (qual := "Book.change_approximation") U_Book_change_approximation_15c5 BK.bc (He.meth_ok (c.fact 71 (f := .meth "Book" "change_approximation") rfl)) (ok_Book_change_approximation_15c5 U_Book_change_approximation_15c5 b T (BK) (EK) (AP) M_Book_require_point) fun _ _ _ _ _ _ us hl => match us, hl with | [_, _, _], _ => rfl
  have M_Book_place_of : MethC P w K mg base (He.ga K "Ratio") 41 (adOf K).bk "place_of" ["self", "name"] (sp_Book_place_of (adOf K)) := methC_of (st := s_Book_place_of) (x := "place_of") (qual := "Book.place_of") U_Book_place_of BK.bc (He.meth_ok (c.fact 72 (f := .meth "Book" "place_of") rfl)) (ok_Book_place_of U_Book_place_of b T (BK) (EK) (AP)) fun _ _ _ _ _ _ us hl => match us, hl with | [_, _], _ => rfl
  have M_Book_change_value_4165 : MethC P w K mg base (He.ga K "Ratio") 43 (adOf K).bk "change_value" ["self", "name", "value"] (sp_Book_change_value_4165 (adOf K)) := methC_of (st := s_Book_change_value_4165) (x := "change_value") (qual := "Book.change_value") U_Book_change_value_4165 BK.bc (He.meth_ok (c.fact 73 (f := .meth "Book" "change_value") rfl)) (ok_Book_change_value_4165 U_Book_change_value_4165 b T (BK) (EK) (AP) N_Reading___init__ M_Book_place_of) fun _ _ _ _ _ _ us hl => match us, hl with | [_, _, _], _ => rfl
  have M_Book_change_weight_d0e6 : MethC P w K mg base (He.ga K "Ratio") 43 (adOf K).bk "change_weight" ["self", "name", "weight"] (sp_Book_change_weight_d0e6 (adOf K)) := methC_of (st := s_Book_change_weight_d0e6) (x := "change_weight") (qual := "Book.change_weight") U_Book_change_weight_d0e6 BK.bc (He.meth_ok (c.fact 74 (f := .meth "Book" "change_weight") rfl)) (ok_Book_change_weight_d0e6 U_Book_change_weight_d0e6 b T (BK) (EK) (AP) N_Reading___init__ M_Book_place_of) fun _ _ _ _ _ _ us hl => match us, hl with | [_, _, _], _ => rfl
  have M_Book_withdraw_8f01 : MethC P w K mg base (He.ga K "Ratio") 42 (adOf K).bk "withdraw" ["self", "name"] (sp_Book_withdraw_8f01 (adOf K)) := methC_of (st := s_Book_withdraw_8f01) (x := "withdraw") (qual := "Book.withdraw") U_Book_withdraw_8f01 BK.bc (He.meth_ok (c.fact 75 (f := .meth "Book" "withdraw") rfl)) (ok_Book_withdraw_8f01 U_Book_withdraw_8f01 b T (BK) (EK) (AP) M_Book_place_of) fun _ _ _ _ _ _ us hl => match us, hl with | [_, _], _ => rfl
  have M_Book_remove_point_5cca : MethC P w K mg base (He.ga K "Ratio") 42 (adOf K).bk "remove_point" ["self", "name"] (sp_Book_remove_point_5cca (adOf K)) := methC_of (st := s_Book_remove_point_5cca) (x := "remove_point") (qual := "Book.remove_point") U_Book_remove_point_5cca BK.bc (He.meth_ok (c.fact 76 (f := .meth "Book" "remove_point") rfl)) (ok_Book_remove_point_5cca U_Book_remove_point_5cca b T (BK) (EK) (AP) M_Book_require_point) fun _ _ _ _ _ _ us hl => match us, hl with | [_, _], _ => rfl
  have G_law_made_9a1d : Def P w K mg base (He.ga K "Ratio") 41 "_law_made" ["_law_pair_here"] sp_law_made_9a1d := def_mk (st := s_law_made_9a1d) (qual := "_law_made") U_law_made_9a1d (He.glo_ok X G (c.fact 6 (f := .glo "_law_made") rfl)) (ok_law_made_9a1d U_law_made_9a1d b T) fun _ _ _ _ _ _ us hl => match us, hl with | [_], _ => rfl
  have G_law_call : Def P w K mg base (He.ga K "Ratio") 44 "_law_call" ["_law_book", "_law_deed_here"] (sp_law_call (adOf K)) := def_mk (st := s_law_call) (qual := "_law_call") U_law_call (He.glo_ok X G (c.fact 7 (f := .glo "_law_call") rfl)) (ok_law_call U_law_call b T (BK) (EK) (AP) M_Book_add_point_7c4f M_Book_add_reading_3063 M_Book_change_approximation_15c5 M_Book_change_value_4165 M_Book_change_weight_d0e6 M_Book_withdraw_8f01 M_Book_remove_point_5cca G_law_made_9a1d) fun _ _ _ _ _ _ us hl => match us, hl with | [_, _], _ => rfl
  have G_law_told_97da : Def P w K mg base (He.ga K "Ratio") 45 "_law_told" ["_law_thing", "_law_deed_here"] (sp_law_told_97da (adOf K)) := def_mk (st := s_law_told_97da) (qual := "_law_told") U_law_told_97da (He.glo_ok X G (c.fact 8 (f := .glo "_law_told") rfl)) (ok_law_told_97da U_law_told_97da b T (BK) (EK) (AP) G_law_call) fun _ _ _ _ _ _ us hl => match us, hl with | [_, _], _ => rfl
  have G_law_point_due : Def P w K mg base (He.ga K "Ratio") 41 "_law_point_due" ["_law_model", "_law_deed_here"] sp_law_point_due := def_mk (st := s_law_point_due) (qual := "_law_point_due") U_law_point_due (He.glo_ok X G (c.fact 9 (f := .glo "_law_point_due") rfl)) (ok_law_point_due U_law_point_due b T) fun _ _ _ _ _ _ us hl => match us, hl with | [_, _], _ => rfl
  have G_law_terms_fit : Def P w K mg base (He.ga K "Ratio") 41 "_law_terms_fit" ["_law_terms_here"] sp_law_terms_fit := def_mk (st := s_law_terms_fit) (qual := "_law_terms_fit") U_law_terms_fit (He.glo_ok X G (c.fact 10 (f := .glo "_law_terms_fit") rfl)) (ok_law_terms_fit U_law_terms_fit b T) fun _ _ _ _ _ _ us hl => match us, hl with | [_], _ => rfl
  have G_law_reading_due : Def P w K mg base (He.ga K "Ratio") 42 "_law_reading_due" ["_law_model", "_law_deed_here"] sp_law_reading_due := def_mk (st := s_law_reading_due) (qual := "_law_reading_due") U_law_reading_due (He.glo_ok X G (c.fact 11 (f := .glo "_law_reading_due") rfl)) (ok_law_reading_due U_law_reading_due b T G_law_terms_fit) fun _ _ _ _ _ _ us hl => match us, hl with | [_, _], _ => rfl
  have G_law_due_9bdd : Def P w K mg base (He.ga K "Ratio") 43 "_law_due" ["_law_model", "_law_deed_here"] sp_law_due_9bdd := def_mk (st := s_law_due_9bdd) (qual := "_law_due") U_law_due_9bdd (He.glo_ok X G (c.fact 12 (f := .glo "_law_due") rfl)) (ok_law_due_9bdd U_law_due_9bdd b T G_law_point_due G_law_reading_due) fun _ _ _ _ _ _ us hl => match us, hl with | [_, _], _ => rfl
  have G_law_spoilt : Def P w K mg base (He.ga K "Ratio") 43 "_law_spoilt" ["_law_state", "_law_terms_here"] sp_law_spoilt := def_mk (st := s_law_spoilt) (qual := "_law_spoilt") U_law_spoilt (He.glo_ok X G (c.fact 13 (f := .glo "_law_spoilt") rfl)) (ok_law_spoilt U_law_spoilt b T G_law_take_65a1) fun _ _ _ _ _ _ us hl => match us, hl with | [_, _], _ => rfl
  have G_law_menu : Def P w K mg base (He.ga K "Ratio") 41 "_law_menu" [] sp_law_menu := def_mk (st := s_law_menu) (qual := "_law_menu") U_law_menu (He.glo_ok X G (c.fact 14 (f := .glo "_law_menu") rfl)) (ok_law_menu U_law_menu b T) fun _ _ _ _ _ _ us hl => match us, hl with | [], _ => rfl
  have G_law_terms_5923 : Def P w K mg base (He.ga K "Ratio") 43 "_law_terms" ["_law_state", "_law_names"] sp_law_terms_5923 := def_mk (st := s_law_terms_5923) (qual := "_law_terms") U_law_terms_5923 (He.glo_ok X G (c.fact 15 (f := .glo "_law_terms") rfl)) (ok_law_terms_5923 U_law_terms_5923 b T G_law_take_65a1 G_law_menu) fun _ _ _ _ _ _ us hl => match us, hl with | [_, _], _ => rfl
  have G_law_common : Def P w K mg base (He.ga K "Ratio") 41 "_law_common" ["_law_one", "_law_other"] sp_law_common := def_mk (st := s_law_common) (qual := "_law_common") U_law_common (He.glo_ok X G (c.fact 16 (f := .glo "_law_common") rfl)) (ok_law_common U_law_common b T) fun _ _ _ _ _ _ us hl => match us, hl with | [_, _], _ => rfl
  have G_law_pair_e2e7 : Def P w K mg base (He.ga K "Ratio") 42 "_law_pair" ["_law_top", "_law_bottom"] sp_law_pair_e2e7 := def_mk (st := s_law_pair_e2e7) (qual := "_law_pair") U_law_pair_e2e7 (He.glo_ok X G (c.fact 17 (f := .glo "_law_pair") rfl)) (ok_law_pair_e2e7 U_law_pair_e2e7 b T G_law_common) fun _ _ _ _ _ _ us hl => match us, hl with | [_, _], _ => rfl
  have G_law_weight_f3c6 : Def P w K mg base (He.ga K "Ratio") 43 "_law_weight" ["_law_state"] sp_law_weight_f3c6 := def_mk (st := s_law_weight_f3c6) (qual := "_law_weight") U_law_weight_f3c6 (He.glo_ok X G (c.fact 18 (f := .glo "_law_weight") rfl)) (ok_law_weight_f3c6 U_law_weight_f3c6 b T G_law_pair_e2e7 G_law_take_65a1) fun _ _ _ _ _ _ us hl => match us, hl with | [_], _ => rfl
  have G_law_number_d14e : Def P w K mg base (He.ga K "Ratio") 43 "_law_number" ["_law_state"] sp_law_number_d14e := def_mk (st := s_law_number_d14e) (qual := "_law_number") U_law_number_d14e (He.glo_ok X G (c.fact 19 (f := .glo "_law_number") rfl)) (ok_law_number_d14e U_law_number_d14e b T G_law_pair_e2e7 G_law_take_65a1) fun _ _ _ _ _ _ us hl => match us, hl with | [_], _ => rfl
  have G_law_deed : Def P w K mg base (He.ga K "Ratio") 44 "_law_deed" ["_law_state", "_law_names", "_law_marks"] sp_law_deed := def_mk (st := s_law_deed) (qual := "_law_deed") U_law_deed (He.glo_ok X G (c.fact 20 (f := .glo "_law_deed") rfl)) (ok_law_deed U_law_deed b T G_law_take_65a1 G_law_spoilt G_law_terms_5923 G_law_weight_f3c6 G_law_number_d14e G_law_menu) fun _ _ _ _ _ _ us hl => match us, hl with | [_, _, _], _ => rfl
  have G_law_row_is : Def P w K mg base (He.ga K "Ratio") 42 "_law_row_is" ["_law_row", "_law_points", "_law_terms_here"] sp_law_row_is := def_mk (st := s_law_row_is) (qual := "_law_row_is") U_law_row_is (He.glo_ok X G (c.fact 21 (f := .glo "_law_row_is") rfl)) (ok_law_row_is U_law_row_is b T G_law_is) fun _ _ _ _ _ _ us hl => match us, hl with | [_, _, _], _ => rfl
  have G_row_of : Def P w K mg base (He.ga K "Ratio") 41 "row_of" ["book", "reading"] (sp_row_of (adOf K)) := def_mk (st := s_row_of) (qual := "row_of") U_row_of (He.glo_ok X G (c.fact 22 (f := .glo "row_of") rfl)) (ok_row_of U_row_of b T (BK) (EK) (AP)) fun _ _ _ _ _ _ us hl => match us, hl with | [_, _], _ => rfl
  have G_law_tape : Def P w K mg base (He.ga K "Ratio") 41 "_law_tape" ["_law_script"] sp_law_tape := def_mk (st := s_law_tape) (qual := "_law_tape") U_law_tape (He.glo_ok X G (c.fact 23 (f := .glo "_law_tape") rfl)) (ok_law_tape U_law_tape b T) fun _ _ _ _ _ _ us hl => match us, hl with | [_], _ => rfl
  exact ok_law_7d45 U_law_7d45 b T (BK) (EK) (AP) M_Book_twin_083b N_Book___init__ G_law_agrees G_law_take_65a1 G_law_told_97da G_law_due_9bdd G_law_deed G_law_row_is G_row_of G_law_tape
end DL
open PySem PySem.W PySem.Calls PyProof.Rows
theorem PySem.Challenge.cw_plumbnet_k11_rows_and_twins_of_books_holds : PySem.Challenge.rw_plumbnet_k11_rows_and_twins_of_books.Holds := by
  w_on; o_law
  refine HandSHeadRun.head_imp (r := DL.R) (q := view DL.R.prog [0, 47]) (H := DL.hk) (ob := DL.ob) (M := 4500) (loose := (["_wall", "SurveyError", "BadNumber", "ZeroDivisor", "UnknownPoint", "UnknownReading", "DuplicateName", "BadReading", "LimitReached", "MOST_DIGITS", "DIGITS", "read_digits", "Ratio", "MOST_POINTS", "MOST_READINGS", "MOST_COEFFICIENT", "Reading", "terms_fit", "Book", "row_of", "_law_tape", "_law_draw", "_law_take", "_law_common", "_law_pair", "_law_number", "_law_made", "_law_is", "_law_menu", "_law_weight"] : List PySem.Str) ++ (["_law_terms", "_law_spoilt", "_law_deed", "_law_terms_fit", "_law_reading_due", "_law_point_due", "_law_due", "_law_call", "_law_told", "_law_reading_is", "_law_agrees", "_law_row_is"] : List PySem.Str)) (d := HandSHeadRun.topDef DL.R.prog 47) (kwd := []) DL.ob_eq
    DL.run (by kernel_rfl) (by kernel_rfl) (by kernel_rfl) (by rfl) (by first | assumption | decide +kernel) (by decide +kernel) ⟨rfl, rfl, rfl, rfl, rfl, by decide +kernel⟩ ?hw ?hc
  case hw => w_witness2
  case hc =>
    refine DL.walkD (l := PySem.Challenge.rw_plumbnet_k11_rows_and_twins_of_books) (n := 63) (k := 46) (x := "_law_script") DL.sp_law_7d45 rfl (by decide) (by kernel_rfl) ⟨rfl, by decide, by decide⟩ (fun ns M hl => ⟨ns, rfl, hl, fun _ => rfl⟩) ?F
    intro w mg fa h Y G hm0
    obtain ⟨K, KX, ⟨cr, c⟩, ca⟩ := Y
    obtain ⟨cr, c_dup⟩ := He.ba cr
    obtain ⟨c_dup, c_badr⟩ := He.ba c_dup
    obtain ⟨c_badr, c_up⟩ := He.ba c_badr
    obtain ⟨c_up, c_ur⟩ := He.ba c_up
    obtain ⟨c_ur, c_lim⟩ := He.ba c_ur
    obtain ⟨c_lim, c_ap⟩ := He.ba c_lim
    have hm : mg ("law" : PySem.Str) = some (.ref fa) := by
      have e : (HandSHeadRun.topDef DL.R.prog 47).name = ("law" : PySem.Str) := by kernel_rfl
      rw [← e]; exact hm0
    obtain ⟨fd, hb, hF⟩ := DL.facts (P := (PySem.Challenge.rw_plumbnet_k11_rows_and_twins_of_books).prog) (w := w) KX G hm c cr (by kernel_rfl) c_dup c_badr c_up c_ur c_lim c_ap
    exact ⟨K, fd, He.ga K "Ratio", KX, hb, hF⟩

