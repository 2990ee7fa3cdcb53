import PyProof.Rows.All
import Wide.All
import OpenK.AllK
import Wide.FinOn
import KE.KStateDown
import HandS.ForMost
import HandS.Exc
import HandS.TryOnly
import HandS.ExcOwn
import HandS.ExcInit
import HandS.WordsExc
import HandS.Zip
import HandS.Walk
import HandS.Wide
import HandS.Gcd
import HandS.Flow
import HandS.Text
import HandS.IsInst
import HandS.TupAny
import HandS.Defaults
import HandS.HeadEnd
import HandS.HeadHook1
import HandS.HeadHook2
import KE.IntBitsLaws
import HandS.WideBits
import HandS.ExcIs
import HandS.OwnEq
import HandS.Zip0
import PyProof.Draws
import HandS.FStr
import HandS.Deep
import KE.KCallOwn
import PyProof.StrBlock2
import HandS.HeadNt
import KE.KExcIs
import HandS.WordsDict
import HandS.More
import HandS.TryMany
import HandS.SetFor
import KE.KDictPairs
import HandS.Head0
import HandS.Head1
import HandS.Head2
import HandS.Head3
import PySem.Challenge.RW_plumbnet_k81_whole_any_order
set_option Elab.async false
set_option linter.all false
set_option maxRecDepth 100000
set_option maxHeartbeats 0
namespace DL
open PySem PySem.Spec PyProof.Rows L2
/-! The data level: what never changes is told by value, what changes stands in a small memory. -/

inductive D where
  | non | bl (b : Bool) | int (i : Int) | str (x : Str) | ref (a : Addr) | ty (n : String)
  | rat (q : Rat)
  | tup (xs : List D)
  /-- a pair that an iterator makes -/
  | prs (xs : List D)
  | lst (xs : List D)
  | scr (xs : List D)
  | obj (C : Addr) (ns : List Str) (xs : List D)

/-- what may change -/
inductive MO where
  | lst (xs : List D)
  | ins (C : Addr) (ns : List Str) (xs : List D)
  | dic (ks : List Str) (xs : List D)
abbrev Mem := Addr → Option MO
def mput (M : Mem) (a : Addr) (o : MO) : Mem := fun b => if b = a then some o else M b
def mdel (M : Mem) (a : Addr) : Mem := fun b => if b = a then none else M b
theorem mput_same {M : Mem} {a o} : mput M a o a = some o := if_pos rfl
theorem mput_ne {M : Mem} {a b o} (h : b ≠ a) : mput M a o b = M b := if_neg h
theorem mdel_same {M : Mem} {a} : mdel M a a = none := if_pos rfl
theorem mdel_ne {M : Mem} {a b} (h : b ≠ a) : mdel M a b = M b := if_neg h
theorem mput_mput {M : Mem} {a o u} : mput (mput M a o) a u = mput M a u := by
  funext b; unfold mput; split <;> rfl
theorem mdel_mput {M : Mem} {a o} (h : M a = none) : mdel (mput M a o) a = M := by
  funext b; unfold mdel mput; split
  · rename_i e; rw [e, h]
  · rfl
theorem mput_self {M : Mem} {a o} (h : M a = some o) : mput M a o = M := by
  funext b; unfold mput; split
  · rename_i e; rw [e, h]
  · rfl

def ratF (q : Rat) : List (Str × V) := [("top", .int q.num), ("bottom", .int (q.den : Int))]

/-- the text's own: the written part, the class of fractions -/
structure Own where
  K : PySem.W.Frag
  CR : Addr
  /-- what is hidden: lists that a comprehension is making -/
  P : Addr → Prop

/-- a tuple, a list that stays as it is -/
def Fre (O : Own) (M : Mem) (a : Addr) : Prop := M a = none ∧ ¬ O.P a
/-- what a tuple of the text's own is: it has no attributes -/
def TupO (o : Obj) : Prop := o.dict = none
def FT (O : Own) (H : Hp) (M : Mem) (a : Addr) (vs : List V) : Prop := Fre O M a ∧ ∃ o, TupO o ∧ H a = some (.frz o (.tup vs))
def FQ (O : Own) (H : Hp) (M : Mem) (a : Addr) (vs : List V) : Prop := Fre O M a ∧ H a = some (.tup vs)
def FL (O : Own) (H : Hp) (M : Mem) (a : Addr) (vs : List V) : Prop := Fre O M a ∧ H a = some (.lst vs)
/-- a list that may be read alone (the script) -/
def FS (O : Own) (H : Hp) (M : Mem) (a : Addr) (vs : List V) : Prop := (Fre O M a ∧ Rd H a (.lst vs)) ∨ SqL O.K (fun _ => none) a vs
section
variable (O : Own) (H : Hp) (M : Mem)
mutual
def Rep : D → V → Prop
  | .non, v => v = .non
  | .bl b, v => v = .bl b
  | .int i, v => v = .int i
  | .str x, v => v = .str x
  | .ref a, v => v = .ref a
  | .ty n, v => v = .ty n
  | .rat q, v => ∃ a dx, v = .ref a ∧ Fre O M a ∧ H a = some (.ins O.CR dx (ratF q))
  | .tup xs, v => ∃ a vs, v = .ref a ∧ FT O H M a vs ∧ Reps xs vs
  | .prs xs, v => ∃ a vs, v = .ref a ∧ FQ O H M a vs ∧ Reps xs vs
  | .lst xs, v => ∃ a vs, v = .ref a ∧ FL O H M a vs ∧ Reps xs vs
  | .scr xs, v => ∃ a vs, v = .ref a ∧ FS O H M a vs ∧ Reps xs vs
  | .obj C ns xs, v => ∃ a dx vs, v = .ref a ∧ Fre O M a ∧ H a = some (.ins C dx (ns.zip vs)) ∧ ns.length = vs.length ∧ Reps xs vs
def Reps : List D → List V → Prop
  | [], vs => vs = []
  | d :: ds, vs => ∃ v r, vs = v :: r ∧ Rep d v ∧ Reps ds r
end
end
/-- what is not in the memory stays, and does not come into it; what is hidden stays as it is -/
structure Fz (O : Own) (H : Hp) (M : Mem) (H' : Hp) (M' : Mem) : Prop where
  st : ∀ a o, Fre O M a → H a = some o → H' a = some o ∧ M' a = none
  hid : ∀ a, O.P a → H' a = H a
theorem Fz.refl {O H M} : Fz O H M H M := ⟨fun _ _ h e => ⟨e, h.1⟩, fun _ _ => rfl⟩
theorem Fz.trans {O H M H1 M1 H2 M2} (a : Fz O H M H1 M1) (b : Fz O H1 M1 H2 M2) : Fz O H M H2 M2 := ⟨fun x o h e =>
  let ⟨e1, h1⟩ := a.st x o h e
  b.st x o ⟨h1, h.2⟩ e1, fun x h => (b.hid x h).trans (a.hid x h)⟩
theorem rd_fz {O H M H' M'} {a : Addr} {u : HO} (z : Fz O H M H' M') (m : Fre O M a) (r : Rd H a u) : Fre O M' a ∧ Rd H' a u := by
  rcases r with r | ⟨o, r⟩
  · exact ⟨⟨(z.st a _ m r).2, m.2⟩, .inl (z.st a _ m r).1⟩
  · exact ⟨⟨(z.st a _ m r).2, m.2⟩, .inr ⟨o, (z.st a _ m r).1⟩⟩
theorem FT.mono {O H M H' M'} {a : Addr} {vs : List V} (z : Fz O H M H' M') (f : FT O H M a vs) : FT O H' M' a vs := let ⟨f1, o, t, e⟩ := f; ⟨⟨(z.st a _ f1 e).2, f1.2⟩, o, t, (z.st a _ f1 e).1⟩
theorem FQ.mono {O H M H' M'} {a : Addr} {vs : List V} (z : Fz O H M H' M') (f : FQ O H M a vs) : FQ O H' M' a vs := ⟨⟨(z.st a _ f.1 f.2).2, f.1.2⟩, (z.st a _ f.1 f.2).1⟩
theorem FL.mono {O H M H' M'} {a : Addr} {vs : List V} (z : Fz O H M H' M') (f : FL O H M a vs) : FL O H' M' a vs := ⟨⟨(z.st a _ f.1 f.2).2, f.1.2⟩, (z.st a _ f.1 f.2).1⟩
theorem FS.mono {O H M H' M'} {a : Addr} {vs : List V} (z : Fz O H M H' M') (f : FS O H M a vs) : FS O H' M' a vs := f.elim (fun f => .inl (rd_fz z f.1 f.2)) .inr
theorem sqL_none {K H} {a : Addr} {vs : List V} (h : SqL K (fun _ => none) a vs) : SqL K H a vs := by
  rcases h with (h | ⟨_, h⟩) | h
  · cases h
  · cases h
  · exact .inr h
theorem FT.rd {O H M} {a : Addr} {vs : List V} (f : FT O H M a vs) : Rd H a (.tup vs) := let ⟨_, o, _, e⟩ := f; .inr ⟨o, e⟩
theorem FT.sq {O H M} {a : Addr} {vs : List V} (f : FT O H M a vs) : SqT O.K H a vs := .inl f.rd
theorem FQ.sq {O H M} {a : Addr} {vs : List V} (f : FQ O H M a vs) : SqT O.K H a vs := .of f.2
theorem FL.sq {O H M} {a : Addr} {vs : List V} (f : FL O H M a vs) : SqL O.K H a vs := .of f.2
theorem FS.sq {O H M} {a : Addr} {vs : List V} (f : FS O H M a vs) : SqL O.K H a vs := f.elim (fun f => .inl f.2) sqL_none
section
variable {O : Own} {H H' : Hp} {M M' : Mem}
mutual
theorem Rep.mono (z : Fz O H M H' M') : ∀ {d : D} {v : V}, Rep O H M d v → Rep O H' M' d v
  | .non, _, h => h
  | .bl _, _, h => h
  | .int _, _, h => h
  | .str _, _, h => h
  | .ref _, _, h => h
  | .ty _, _, h => h
  | .rat q, v, h => by
    obtain ⟨a, dx, e, m, h⟩ := h
    exact ⟨a, dx, e, ⟨(z.st a _ m h).2, m.2⟩, (z.st a _ m h).1⟩
  | .tup xs, v, h => by
    obtain ⟨a, vs, e, f, r⟩ := h
    exact ⟨a, vs, e, f.mono z, Reps.mono z r⟩
  | .prs xs, v, h => by
    obtain ⟨a, vs, e, f, r⟩ := h
    exact ⟨a, vs, e, f.mono z, Reps.mono z r⟩
  | .lst xs, v, h => by
    obtain ⟨a, vs, e, f, r⟩ := h
    exact ⟨a, vs, e, f.mono z, Reps.mono z r⟩
  | .scr xs, v, h => by
    obtain ⟨a, vs, e, f, r⟩ := h
    exact ⟨a, vs, e, f.mono z, Reps.mono z r⟩
  | .obj C ns xs, v, h => by
    obtain ⟨a, dx, vs, e, m, h, l, r⟩ := h
    exact ⟨a, dx, vs, e, ⟨(z.st a _ m h).2, m.2⟩, (z.st a _ m h).1, l, Reps.mono z r⟩
theorem Reps.mono (z : Fz O H M H' M') : ∀ {ds : List D} {vs : List V}, Reps O H M ds vs → Reps O H' M' ds vs
  | [], _, h => h
  | d :: ds, vs, h => by
    obtain ⟨v, r, e, h1, h2⟩ := h
    exact ⟨v, r, e, Rep.mono z h1, Reps.mono z h2⟩
end
end
theorem Reps.length {O H M} : ∀ {ds : List D} {vs : List V}, Reps O H M ds vs → ds.length = vs.length
  | [], _, h => by rw [show _ = [] from h]; rfl
  | d :: ds, vs, h => by
    obtain ⟨v, r, rfl, _, h2⟩ := h
    simp [Reps.length h2]
theorem Reps.get {O H M} : ∀ {ds : List D} {vs : List V} {i : Nat} {d : D}, Reps O H M ds vs → ds[i]? = some d → ∃ v, vs[i]? = some v ∧ Rep O H M d v
  | [], _, _, _, _, e => by simp at e
  | d :: ds, vs, i, x, h, e => by
    obtain ⟨v, r, rfl, h1, h2⟩ := h
    cases i with
    | zero => simp at e; subst e; exact ⟨v, rfl, h1⟩
    | succ i => exact Reps.get (i := i) h2 (by simpa using e)
theorem Reps.getV {O H M} {ds : List D} {vs : List V} {i : Nat} {v : V} (h : Reps O H M ds vs) (e : vs[i]? = some v) : ∃ d, ds[i]? = some d ∧ Rep O H M d v := by
  have hl := h.length
  have hi := (List.getElem?_eq_some_iff.mp e).1
  have hd : ds[i]? = some ds[i] := List.getElem?_eq_getElem (by omega)
  obtain ⟨v', e', r⟩ := h.get hd
  rw [e] at e'; cases e'
  exact ⟨_, hd, r⟩
theorem Reps.append {O H M} : ∀ {ds es : List D} {vs ws : List V}, Reps O H M ds vs → Reps O H M es ws → Reps O H M (ds ++ es) (vs ++ ws)
  | [], _, _, _, h, h' => by rw [show _ = _ from h]; exact h'
  | d :: ds, es, vs, ws, h, h' => by
    obtain ⟨v, r, rfl, h1, h2⟩ := h
    exact ⟨v, r ++ ws, rfl, h1, Reps.append h2 h'⟩
theorem Reps.one {O H M} {d : D} {v : V} (h : Rep O H M d v) : Reps O H M [d] [v] := ⟨v, [], rfl, h, rfl⟩
theorem Reps.set {O H M} {d : D} {v : V} (q : Rep O H M d v) : ∀ {ds : List D} {vs : List V} (i : Nat), Reps O H M ds vs → Reps O H M (ds.set i d) (vs.set i v)
  | [], _, _, h => by rw [show _ = _ from h]; rfl
  | x :: ds, vs, i, h => by
    obtain ⟨w, r, rfl, h1, h2⟩ := h
    cases i with
    | zero => exact ⟨v, r, rfl, q, h2⟩
    | succ i => exact ⟨w, r.set i v, rfl, h1, Reps.set q i h2⟩
theorem Reps.take {O H M} : ∀ {ds : List D} {vs : List V} (n : Nat), Reps O H M ds vs → Reps O H M (ds.take n) (vs.take n)
  | [], _, n, h => by rw [show _ = _ from h]; cases n <;> rfl
  | d :: ds, vs, n, h => by
    obtain ⟨v, r, rfl, h1, h2⟩ := h
    cases n with
    | zero => rfl
    | succ n => exact ⟨v, r.take n, rfl, h1, Reps.take n h2⟩
theorem Reps.drop {O H M} : ∀ {ds : List D} {vs : List V} (n : Nat), Reps O H M ds vs → Reps O H M (ds.drop n) (vs.drop n)
  | [], _, n, h => by rw [show _ = _ from h]; cases n <;> rfl
  | d :: ds, vs, n, h => by
    obtain ⟨v, r, rfl, h1, h2⟩ := h
    cases n with
    | zero => exact ⟨v, r, rfl, h1, h2⟩
    | succ n => exact Reps.drop n h2

/-- what the memory tells of an address -/
def RepO (O : Own) (H : Hp) (M : Mem) (a : Addr) : MO → Prop
  | .lst ds => ∃ vs, H a = some (.lst vs) ∧ Reps O H M ds vs
  | .ins C ns ds => ∃ dx vs, H a = some (.ins C dx (ns.zip vs)) ∧ ns.length = vs.length ∧ Reps O H M ds vs
  | .dic ks ds => ∃ vs, H a = some (.dK ((ks.map Sum.inr).zip vs)) ∧ ks.length = vs.length ∧ Reps O H M ds vs
structure Good (O : Own) (H : Hp) (M : Mem) : Prop where
  at_ : ∀ a o, M a = some o → RepO O H M a o
  hid : ∀ a, O.P a → M a = none ∧ H a ≠ none
theorem RepO.mono {O H M H' M'} {a : Addr} {o : MO} (z : Fz O H M H' M') (h : ∀ u, H a = some u → H' a = some u) (r : RepO O H M a o) : RepO O H' M' a o := by
  cases o with
  | lst ds => obtain ⟨vs, e, r⟩ := r; exact ⟨vs, h _ e, r.mono z⟩
  | ins C ns ds => obtain ⟨dx, vs, e, l, r⟩ := r; exact ⟨dx, vs, h _ e, l, r.mono z⟩
  | dic ks ds => obtain ⟨vs, e, l, r⟩ := r; exact ⟨vs, h _ e, l, r.mono z⟩
theorem RepO.there {O H M} {a : Addr} {o : MO} (r : RepO O H M a o) : H a ≠ none := by
  cases o with
  | lst ds => obtain ⟨vs, q, _⟩ := r; rw [q]; simp
  | ins C ns ds => obtain ⟨dx, vs, q, _⟩ := r; rw [q]; simp
  | dic ks ds => obtain ⟨vs, q, _⟩ := r; rw [q]; simp
theorem Good.none {O H M} (g : Good O H M) {a : Addr} (h : H a = none) : Fre O M a := by
  refine ⟨?_, fun p => (g.hid a p).2 h⟩
  cases e : M a with
  | none => rfl
  | some o => exact absurd h (g.at_ a o e).there
theorem Good.noP {O H M} (g : Good O H M) {a : Addr} {o : MO} (h : M a = some o) : ¬ O.P a := fun p => by rw [(g.hid a p).1] at h; cases h
/-- a new object by value: the memory is as it was -/
theorem fz_new {O H M} {p : Addr} {o : HO} (g : Good O H M) (h : H p = none) : Fz O H M (upd H p o) M :=
  ⟨fun a u m e => ⟨by rw [upd_ne (ne_of_none e h)]; exact e, m.1⟩, fun a q => upd_ne fun z => (g.hid a q).2 (z ▸ h)⟩
theorem good_new {O H M} {p : Addr} {o : HO} (g : Good O H M) (h : H p = none) : Good O (upd H p o) M := ⟨fun a u m =>
  (g.at_ a u m).mono (fz_new g h) fun v e => by rw [upd_ne (ne_of_none e h)]; exact e, fun a q => ⟨(g.hid a q).1, by rw [(fz_new g h).hid a q]; exact (g.hid a q).2⟩⟩
/-- a new object that may change -/
theorem fz_newM {O H M} {p : Addr} {o : HO} {u : MO} (g : Good O H M) (h : H p = none) : Fz O H M (upd H p o) (mput M p u) := ⟨fun a v m e =>
  have n := ne_of_none e h
  ⟨by rw [upd_ne n]; exact e, by rw [mput_ne n]; exact m.1⟩, fun a q => upd_ne fun z => (g.hid a q).2 (z ▸ h)⟩
/-- an object of the memory is written -/
theorem fz_put {O H M} {p : Addr} {o : HO} {u w : MO} (g : Good O H M) (h : M p = some w) : Fz O H M (upd H p o) (mput M p u) := ⟨fun a v m e => by
  have n : a ≠ p := fun z => by have m1 := m.1; rw [z, h] at m1; cases m1
  exact ⟨by rw [upd_ne n]; exact e, by rw [mput_ne n]; exact m.1⟩, fun a q => upd_ne fun z => g.noP h (z ▸ q)⟩
theorem good_put {O H M} {p : Addr} {o : HO} {u : MO} (g : Good O H M) (np : ¬ O.P p) (z : Fz O H M (upd H p o) (mput M p u)) (r : RepO O (upd H p o) (mput M p u) p u) : Good O (upd H p o) (mput M p u) := ⟨fun a w m => by
  by_cases e : a = p
  · subst e
    rw [mput_same] at m; cases m
    exact r
  · rw [mput_ne e] at m
    exact (g.at_ a w m).mono z fun v q => by rw [upd_ne e]; exact q, fun a q => by
  have e : a ≠ p := fun z => np (z ▸ q)
  rw [mput_ne e, upd_ne e]
  exact g.hid a q⟩
/-- an object of the memory is let go: from now on it stays as it is -/
theorem fz_del {O H M} {p : Addr} : Fz O H M H (mdel M p) := ⟨fun a v m e => ⟨e, by
  by_cases n : a = p
  · rw [n]; exact mdel_same
  · rw [mdel_ne n]; exact m.1⟩, fun _ _ => rfl⟩
theorem good_del {O H M} {p : Addr} (g : Good O H M) : Good O H (mdel M p) := ⟨fun a w m => by
  have n : a ≠ p := fun z => by rw [z, mdel_same] at m; cases m
  rw [mdel_ne n] at m
  exact (g.at_ a w m).mono fz_del fun _ q => q, fun a q => ⟨by
  by_cases n : a = p
  · rw [n]; exact mdel_same
  · rw [mdel_ne n]; exact (g.hid a q).1, (g.hid a q).2⟩⟩
theorem rep_frz {O H M} {p : Addr} {ds : List D} (g : Good O H M) (h : M p = some (.lst ds)) : Rep O H (mdel M p) (.lst ds) (.ref p) := by
  obtain ⟨vs, e, r⟩ := g.at_ p _ h
  exact ⟨p, vs, rfl, ⟨⟨mdel_same, g.noP h⟩, e⟩, r.mono fz_del⟩
theorem rep_frzO {O H M} {p C : Addr} {ns : List Str} {ds : List D} (g : Good O H M) (h : M p = some (.ins C ns ds)) : Rep O H (mdel M p) (.obj C ns ds) (.ref p) := by
  obtain ⟨dx, vs, e, l, r⟩ := g.at_ p _ h
  exact ⟨p, dx, vs, rfl, ⟨mdel_same, g.noP h⟩, e, l, r.mono fz_del⟩

/-! ### slots -/
abbrev DS0 := List (Option D)
def RepS (O : Own) (H : Hp) (M : Mem) (δ : DS0) (σ : L2.St) : Prop := δ.length = σ.length ∧ ∀ (i : Nat) (d : D), δ[i]? = some (some d) → ∃ v, σ[i]? = some (some v) ∧ Rep O H M d v
theorem RepS.mono {O H M H' M'} {δ : DS0} {σ : L2.St} (z : Fz O H M H' M') (r : RepS O H M δ σ) : RepS O H' M' δ σ := ⟨r.1, fun i d e => let ⟨v, h, q⟩ := r.2 i d e; ⟨v, h, q.mono z⟩⟩
theorem RepS.set {O H M} {δ : DS0} {σ : L2.St} {i : Nat} {d : D} {v : V} (r : RepS O H M δ σ) (q : Rep O H M d v) : RepS O H M (δ.set i (some d)) (σ.set i (some v)) := by
  refine ⟨by simp [r.1], fun j e h => ?_⟩
  by_cases n : j = i
  · subst n
    have hj : j < δ.length := by
      have := (List.getElem?_eq_some_iff.mp h).1
      simpa using this
    rw [List.getElem?_set_self hj] at h
    cases h
    exact ⟨v, List.getElem?_set_self (by rw [← r.1]; exact hj), q⟩
  · rw [List.getElem?_set_ne (Ne.symm n)] at h
    obtain ⟨w, h1, h2⟩ := r.2 j e h
    exact ⟨w, by rw [List.getElem?_set_ne (Ne.symm n)]; exact h1, h2⟩
theorem RepS.unset {O H M} {δ : DS0} {σ : L2.St} {i : Nat} {v : Option V} (r : RepS O H M δ σ) : RepS O H M (δ.set i none) (σ.set i v) := by
  refine ⟨by simp [r.1], fun j e h => ?_⟩
  by_cases n : j = i
  · subst n
    have hj : j < δ.length := by
      have := (List.getElem?_eq_some_iff.mp h).1
      simpa using this
    rw [List.getElem?_set_self hj] at h
    cases h
  · rw [List.getElem?_set_ne (Ne.symm n)] at h
    obtain ⟨w, h1, h2⟩ := r.2 j e h
    exact ⟨w, by rw [List.getElem?_set_ne (Ne.symm n)]; exact h1, h2⟩

/-! ### readings over data -/
abbrev DK := D → Mem → Prop
abbrev DE := DS0 → Mem → DK → Prop
abbrev DT := DS0 → Mem → (Bool → Mem → Prop) → Prop
abbrev DA := DS0 → Mem → (List D → Mem → Prop) → Prop
structure DEnds where
  nx : DS0 → Mem → Prop
  rt : DK
  bk : DS0 → Mem → Prop := fun _ _ => False
  ct : DS0 → Mem → Prop := fun _ _ => False
abbrev DSt := DEnds → DS0 → Mem → Prop
abbrev DG := D → DS0 → Mem → (DS0 → Mem → Prop) → Prop
abbrev D2 := D → D → Mem → DK → Prop
abbrev D1 := D → Mem → DK → Prop
abbrev DC := List D → Mem → DK → Prop

section
variable (O : Own)
def LfV (H : Hp) (M : Mem) (Q : DK) : VK := fun v H' => ∃ d M', Fz O H M H' M' ∧ Good O H' M' ∧ Rep O H' M' d v ∧ Q d M'
def LfS (H : Hp) (M : Mem) (Q : DS0 → Mem → Prop) : L2.St → Hp → Prop := fun σ' H' => ∃ δ' M', Fz O H M H' M' ∧ Good O H' M' ∧ RepS O H' M' δ' σ' ∧ Q δ' M'
structure EndsOk (H : Hp) (M : Mem) (Dd : DEnds) (Dn : Ends) : Prop where
  nx : ∀ σ H', LfS O H M Dd.nx σ H' → Dn.nx σ H'
  rt : ∀ v H', LfV O H M Dd.rt v H' → Dn.rt v H'
  bk : ∀ σ H', LfS O H M Dd.bk σ H' → Dn.bk σ H'
  ct : ∀ σ H', LfS O H M Dd.ct σ H' → Dn.ct σ H'
end
/-! ### errors -/
/-- an error: its class, its fields' names and values -/
abbrev DX := Addr → List Str → List D → Mem → Prop
abbrev DXS := Addr → List Str → List D → DS0 → Mem → Prop
/-- what an error carries: its own dict -/
def ErrD (O : Own) (H : Hp) (M : Mem) (d : Option Addr) (ns : List Str) (fs : List D) : Prop :=
  (ns = [] ∧ fs = [] ∧ d = none) ∨ ns ≠ [] ∧ ∃ dd vs, d = some dd ∧ Fre O M dd ∧ H dd = some (.xd (ns.zip vs)) ∧ ns.length = vs.length ∧ Reps O H M fs vs
def LfX (O : Own) (H : Hp) (M : Mem) (E : DX) : XK := fun c d H' => ∃ C ns fs M', c = .ref C ∧ Fz O H M H' M' ∧ Good O H' M' ∧ ErrD O H' M' d ns fs ∧ E C ns fs M'
def LfXS (O : Own) (H : Hp) (M : Mem) (E : DXS) : WX := fun c d σ' H' => ∃ C ns fs δ' M', c = .ref C ∧ Fz O H M H' M' ∧ Good O H' M' ∧ RepS O H' M' δ' σ' ∧ ErrD O H' M' d ns fs ∧ E C ns fs δ' M'
def XL (O : Own) (H : Hp) (M : Mem) (E : DXS) (W : WX) : Prop := ∀ c d σ' H', LfXS O H M E c d σ' H' → W c d σ' H'
theorem XL.trans {O : Own} {H M H1 M1 E W} (x : XL O H M E W) (z : Fz O H M H1 M1) : XL O H1 M1 E W := fun c d σ' H' ⟨C, ns, fs, δ', M', e, z', r⟩ => x c d σ' H' ⟨C, ns, fs, δ', M', e, z.trans z', r⟩
/-- what stands fixed through a body -/
structure Bs where
  K : PySem.W.Frag
  CR : Addr
  E : DXS
  W : WX
abbrev noE : DXS := fun _ _ _ _ _ => False
abbrev noW : WX := fun _ _ _ _ => False
theorem XL.no {O : Own} {H M W} : XL O H M noE W := fun _ _ _ _ ⟨_, _, _, _, _, _, _, _, _, _, q⟩ => q.elim
section
variable (B : Bs)
def lE (w : DE) : TE := fun σ H Q => ∃ P δ M Qd, RepS ⟨B.K, B.CR, P⟩ H M δ σ ∧ Good ⟨B.K, B.CR, P⟩ H M ∧ XL ⟨B.K, B.CR, P⟩ H M B.E B.W ∧ w δ M Qd ∧ ∀ v H', LfV ⟨B.K, B.CR, P⟩ H M Qd v H' → Q v H'
def lT (w : DT) : TT := fun σ H Q => ∃ P δ M Qd, RepS ⟨B.K, B.CR, P⟩ H M δ σ ∧ Good ⟨B.K, B.CR, P⟩ H M ∧ XL ⟨B.K, B.CR, P⟩ H M B.E B.W ∧ w δ M Qd ∧ ∀ b H' M', Fz ⟨B.K, B.CR, P⟩ H M H' M' → Good ⟨B.K, B.CR, P⟩ H' M' → Qd b M' → Q b H'
def lA (w : DA) : TA := fun σ H Q => ∃ P δ M Qd, RepS ⟨B.K, B.CR, P⟩ H M δ σ ∧ Good ⟨B.K, B.CR, P⟩ H M ∧ XL ⟨B.K, B.CR, P⟩ H M B.E B.W ∧ w δ M Qd ∧ ∀ vs H' ds M', Fz ⟨B.K, B.CR, P⟩ H M H' M' → Good ⟨B.K, B.CR, P⟩ H' M' → Reps ⟨B.K, B.CR, P⟩ H' M' ds vs → Qd ds M' → Q vs H'
def lS (w : DSt) : TS := fun Dn σ H => ∃ P δ M Dd, RepS ⟨B.K, B.CR, P⟩ H M δ σ ∧ Good ⟨B.K, B.CR, P⟩ H M ∧ XL ⟨B.K, B.CR, P⟩ H M B.E B.W ∧ w Dd δ M ∧ EndsOk ⟨B.K, B.CR, P⟩ H M Dd Dn
def lG (w : DG) : TG := fun v σ H Q => ∃ P d δ M Qd, Rep ⟨B.K, B.CR, P⟩ H M d v ∧ RepS ⟨B.K, B.CR, P⟩ H M δ σ ∧ Good ⟨B.K, B.CR, P⟩ H M ∧ XL ⟨B.K, B.CR, P⟩ H M B.E B.W ∧ w d δ M Qd ∧ ∀ σ' H', LfS ⟨B.K, B.CR, P⟩ H M Qd σ' H' → Q σ' H'
end
section
variable (K : PySem.W.Frag) (CR : Addr)
def l2 (r : D2) : R2 := fun x y H Q => ∃ P a b M Qd, Rep ⟨K, CR, P⟩ H M a x ∧ Rep ⟨K, CR, P⟩ H M b y ∧ Good ⟨K, CR, P⟩ H M ∧ r a b M Qd ∧ ∀ v H', LfV ⟨K, CR, P⟩ H M Qd v H' → Q v H'
def l1 (r : D1) : V → Hp → VK → Prop := fun x H Q => ∃ P a M Qd, Rep ⟨K, CR, P⟩ H M a x ∧ Good ⟨K, CR, P⟩ H M ∧ r a M Qd ∧ ∀ v H', LfV ⟨K, CR, P⟩ H M Qd v H' → Q v H'
def lC (r : DC) : List V → Hp → VK → Prop := fun xs H Q => ∃ P ds M Qd, Reps ⟨K, CR, P⟩ H M ds xs ∧ Good ⟨K, CR, P⟩ H M ∧ r ds M Qd ∧ ∀ v H', LfV ⟨K, CR, P⟩ H M Qd v H' → Q v H'
end
section
variable {O : Own}
theorem LfV.trans {H M H1 M1 Q v H'} (z : Fz O H M H1 M1) (h : LfV O H1 M1 Q v H') : LfV O H M Q v H' := let ⟨d, M', z', g, r, q⟩ := h; ⟨d, M', z.trans z', g, r, q⟩
theorem LfS.trans {H M H1 M1 Q v H'} (z : Fz O H M H1 M1) (h : LfS O H1 M1 Q v H') : LfS O H M Q v H' := let ⟨d, M', z', g, r, q⟩ := h; ⟨d, M', z.trans z', g, r, q⟩
theorem LfV.here {H M Q v} {d : D} (g : Good O H M) (r : Rep O H M d v) (q : Q d M) : LfV O H M Q v H := ⟨d, M, Fz.refl, g, r, q⟩
theorem EndsOk.trans {H M H1 M1 Dd Dn} (z : Fz O H M H1 M1) (k : EndsOk O H M Dd Dn) : EndsOk O H1 M1 Dd Dn :=
  ⟨fun σ H' h => k.nx σ H' (h.trans z), fun σ H' h => k.rt σ H' (h.trans z), fun σ H' h => k.bk σ H' (h.trans z), fun σ H' h => k.ct σ H' (h.trans z)⟩
end
/-! ### a rule with a stronger reading -/
section
variable {X : Cx}
theorem _root_.L2.PE.imp {e : Expr} {t t' : TE} (h : PE X e t) (i : ∀ σ H Q, t' σ H Q → t σ H Q) : PE X e t' := ⟨fun p s σ H Q I q => h.run p s σ H Q I (i σ H Q q)⟩
theorem _root_.L2.PT.imp {e : Expr} {t t' : TT} (h : PT X e t) (i : ∀ σ H Q, t' σ H Q → t σ H Q) : PT X e t' := ⟨fun p s σ H Q I q => h.run p s σ H Q I (i σ H Q q)⟩
theorem _root_.L2.PW.imp {e : Expr} {t t' : TT} (h : PW X e t) (i : ∀ σ H Q, t' σ H Q → t σ H Q) : PW X e t' := ⟨fun w p s σ H Q I q => h.run w p s σ H Q I (i σ H Q q)⟩
theorem _root_.L2.PA.imp {e : List Expr} {t t' : TA} (h : PA X e t) (i : ∀ σ H Q, t' σ H Q → t σ H Q) : PA X e t' := ⟨fun o p s σ H Q I q => h.run o p s σ H Q I (i σ H Q q)⟩
theorem _root_.L2.PS.imp {e : Stmt} {t t' : TS} (h : PS X e t) (i : ∀ Dn σ H, t' Dn σ H → t Dn σ H) : PS X e t' := ⟨fun p s σ H Dn I q => h.run p s σ H Dn I (i Dn σ H q)⟩
theorem _root_.L2.PSs.imp {e : List Stmt} {t t' : TS} (h : PSs X e t) (i : ∀ Dn σ H, t' Dn σ H → t Dn σ H) : PSs X e t' := ⟨fun p s σ H Dn I q => h.run p s σ H Dn I (i Dn σ H q)⟩
theorem _root_.L2.PG.imp {e : Expr} {t t' : TG} (h : PG X e t) (i : ∀ v σ H Q, t' v σ H Q → t v σ H Q) : PG X e t' := ⟨fun p s σ H v u Q I r q => h.run p s σ H v u Q I r (i v σ H Q q)⟩
theorem _root_.L2.OpR.imp {f : Value → Value → Sem Value} {r r' : R2} (h : OpR X f r) (i : ∀ x y H Q, r' x y H Q → r x y H Q) : OpR X f r' := fun p s σ H x y v u Q I rx ry q => h p s σ H x y v u Q I rx ry (i x y H Q q)
theorem _root_.L2.CallR.imp {f : Value} {r r' : List V → Hp → VK → Prop} (h : CallR X f r) (i : ∀ x H Q, r' x H Q → r x H Q) : CallR X f r' := fun p s σ H x u Q I rx q => h p s σ H x u Q I rx (i x H Q q)
theorem _root_.L2.UnR.imp {f : Value → Sem Value} {r r' : V → Hp → VK → Prop} (h : UnR X f r) (i : ∀ x H Q, r' x H Q → r x H Q) : UnR X f r' := fun p s σ H x u Q I rx q => h p s σ H x u Q I rx (i x H Q q)
end
/-! ### names, constants, operators -/
def dVar (i : Nat) : DE := fun δ M Q => ∃ d, δ[i]? = some (some d) ∧ Q d M
def dC (d : D) : DE := fun _ M Q => Q d M
def dOp (r : D2) (a b : DE) : DE := fun δ M Q => a δ M fun x M1 => b δ M1 fun y M2 => r x y M2 Q
def dUn (r : D1) (a : DE) : DE := fun δ M Q => a δ M fun x M1 => r x M1 Q
def dNil : DA := fun _ M Q => Q [] M
def dCons (a : DE) (t : DA) : DA := fun δ M Q => a δ M fun x M1 => t δ M1 fun xs M2 => Q (x :: xs) M2
def dCB (r : DC) (t : DA) : DE := fun δ M Q => t δ M fun ds M1 => r ds M1 Q
section
variable {X : Cx} {CR : Addr} {E : DXS} {W : WX} {a b c : Expr} {wa wb wc : DE} {pos : Pos}
abbrev bs (X : Cx) (CR : Addr) (E : DXS) (W : WX) : Bs := ⟨X.K, CR, E, W⟩
abbrev PD (X : Cx) (B : Bs) (e : Expr) (w : DE) : Prop := PE X e (lE B w)
abbrev PDT (X : Cx) (B : Bs) (e : Expr) (w : DT) : Prop := PT X e (lT B w)
abbrev PDW (X : Cx) (B : Bs) (e : Expr) (w : DT) : Prop := PW X e (lT B w)
abbrev PDA (X : Cx) (B : Bs) (es : List Expr) (w : DA) : Prop := PA X es (lA B w)
abbrev PDS (X : Cx) (B : Bs) (s : Stmt) (w : DSt) : Prop := PS X s (lS B w)
abbrev PDSs (X : Cx) (B : Bs) (s : List Stmt) (w : DSt) : Prop := PSs X s (lS B w)
abbrev PDG (X : Cx) (B : Bs) (e : Expr) (w : DG) : Prop := PG X e (lG B w)
theorem dv (i : Nat) {x : Str} (hN : X.N[i]? = some x := by rfl) (hv : Vis X.env.scope x := by first | exact Or.inl rfl | exact Or.inr (Or.inl rfl) | exact Or.inr (Or.inr rfl)) (hd : (x == ("__debug__" : Str)) = false := by decide)
    (hcd : (x == ("__classdict__" : Str)) = false := by decide) : PD X (bs X CR E W) (.Name x pos) (dVar i) := by
  refine (pv i hN hv hd hcd).imp fun σ H Q h => ?_
  obtain ⟨P, δ, M, Qd, hS, g, x, ⟨d, e, q⟩, k⟩ := h
  obtain ⟨v, ev, r⟩ := hS.2 i d e
  exact ⟨v, ev, k v H (LfV.here g r q)⟩
theorem pd_c {e : Expr} {d : D} {v : V} (h : PE X e (tC v)) (r : ∀ O H M, Rep O H M d v) : PD X (bs X CR E W) e (dC d) := by
  refine h.imp fun σ H Q h => ?_
  obtain ⟨P, δ, M, Qd, hS, g, x, q, k⟩ := h
  exact k v H (LfV.here g (r _ _ _) q)
theorem di {i j} : PD X (bs X CR E W) (.Constant (.int i) j pos) (dC (.int i)) := pd_c pe_int fun _ _ _ => rfl
theorem db {i j} : PD X (bs X CR E W) (.Constant (.bool i) j pos) (dC (.bl i)) := pd_c pe_bl fun _ _ _ => rfl
theorem dn {j} : PD X (bs X CR E W) (.Constant .none j pos) (dC .non) := pd_c pe_non fun _ _ _ => rfl
theorem ds {x j} : PD X (bs X CR E W) (.Constant (.str x) j pos) (dC (.str x)) := pd_c pe_str fun _ _ _ => rfl
/-- a module's constant -/
theorem dg {x : Str} {d : D} {v : V} {u : Value} (hm : X.mg x = some u) (r : RelV v u) (rd : ∀ O H M, Rep O H M d v) (hg : Gl X x := by rfl) (hd : (x == ("__debug__" : Str)) = false := by decide) : PD X (bs X CR E W) (.Name x pos) (dC d) := pd_c (pe_glob hg hm r hd) rd
theorem op_ok {r : D2} : ∀ σ H Q, lE (bs X CR E W) (dOp r wa wb) σ H Q → tOp (l2 X.K CR r) (lE (bs X CR E W) wa) (lE (bs X CR E W) wb) σ H Q := by
  intro σ H Q h
  obtain ⟨P, δ, M, Qd, hS, g, x, w, k⟩ := h
  refine ⟨P, δ, M, _, hS, g, x, w, fun v H1 ⟨d, M1, z1, g1, r1, w1⟩ => ?_⟩
  refine ⟨P, δ, M1, _, hS.mono z1, g1, x.trans z1, w1, fun v2 H2 ⟨d2, M2, z2, g2, r2, w2⟩ => ?_⟩
  exact ⟨P, d, d2, M2, _, r1.mono z2, r2, g2, w2, fun v3 H3 l => k v3 H3 (l.trans (z1.trans z2))⟩
theorem d_op {op : Operator} {r : D2} (ho : OpR X (binaryOp op) (l2 X.K CR r)) (ha : PD X (bs X CR E W) a wa) (hb : PD X (bs X CR E W) b wb) : PD X (bs X CR E W) (.BinOp a op b pos) (dOp r wa wb) := (pe_op ho ha hb).imp op_ok
theorem d_cmp {op : CmpOp} {r : D2} (ho : OpR X (compareOp op) (l2 X.K CR r)) (ha : PD X (bs X CR E W) a wa) (hb : PD X (bs X CR E W) b wb) (hm : behindInMarks op b = false := by first | exact nomark _ | rfl) : PD X (bs X CR E W) (.Compare a [op] [b] pos) (dOp r wa wb) := (pe_cmpR ho ha hb hm).imp op_ok
theorem d_un {op : UnaryOp} {r : D1} (ho : UnR X (unaryOp op) (l1 X.K CR r)) (ha : PD X (bs X CR E W) a wa) : PD X (bs X CR E W) (.UnaryOp op a pos) (dUn r wa) := by
  refine (pe_un ho ha).imp fun σ H Q h => ?_
  obtain ⟨P, δ, M, Qd, hS, g, x, w, k⟩ := h
  exact ⟨P, δ, M, _, hS, g, x, w, fun v H1 ⟨d, M1, z1, g1, r1, w1⟩ => ⟨P, d, M1, _, r1, g1, w1, fun v3 H3 l => k v3 H3 (l.trans z1)⟩⟩
/-- a value that is used as it is by a rule over values -/
theorem thenE {w : DE} {r : D1} {t : V → Hp → VK → Prop} (ht : ∀ x H Q, l1 X.K CR r x H Q → t x H Q) : ∀ σ H Q, lE (bs X CR E W) (dUn r w) σ H Q → lE (bs X CR E W) w σ H (fun x H1 => t x H1 Q) := by
  intro σ H Q h
  obtain ⟨P, δ, M, Qd, hS, g, x, w, k⟩ := h
  exact ⟨P, δ, M, _, hS, g, x, w, fun v H1 ⟨d, M1, z1, g1, r1, w1⟩ => ht _ _ _ ⟨P, d, M1, _, r1, g1, w1, fun v3 H3 l => k v3 H3 (l.trans z1)⟩⟩
/-! ### argument lists -/
theorem da_nil : PDA X (bs X CR E W) [] dNil := by
  refine pa_nil.imp fun σ H Q h => ?_
  obtain ⟨P, δ, M, Qd, hS, g, x, w, k⟩ := h
  exact k [] H [] M Fz.refl g rfl w
theorem da_cons {e : Expr} {es : List Expr} {w : DE} {t : DA} (ha : PD X (bs X CR E W) e w) (hr : PDA X (bs X CR E W) es t) (hs : starEach (e :: es) X.env = (false, eval e X.env) :: starEach es X.env := by rfl) : PDA X (bs X CR E W) (e :: es) (dCons w t) := by
  refine (pa_cons ha hr hs).imp fun σ H Q h => ?_
  obtain ⟨P, δ, M, Qd, hS, g, x, w, k⟩ := h
  refine ⟨P, δ, M, _, hS, g, x, w, fun v H1 ⟨d, M1, z1, g1, r1, w1⟩ => ⟨P, δ, M1, _, hS.mono z1, g1, x.trans z1, w1, fun vs H2 ds M2 z2 g2 rs w2 => ?_⟩⟩
  exact k (v :: vs) H2 (d :: ds) M2 (z1.trans z2) g2 ⟨v, vs, rfl, r1.mono z2, rs⟩ w2
theorem cb_ok {r : DC} {t : DA} : ∀ σ H Q, lE (bs X CR E W) (dCB r t) σ H Q → tCB (lC X.K CR r) (lA (bs X CR E W) t) σ H Q := by
  intro σ H Q h
  obtain ⟨P, δ, M, Qd, hS, g, x, w, k⟩ := h
  exact ⟨P, δ, M, _, hS, g, x, w, fun vs H1 ds M1 z1 g1 rs w1 => ⟨P, ds, M1, _, rs, g1, w1, fun v3 H3 l => k v3 H3 (l.trans z1)⟩⟩
/-- f(e, ..), f a built-in function, a built-in type, a module's name for a built-in -/
theorem d_B {x : Str} {e : Expr} {es : List Expr} {id : String} {r : DC} {t : DA} {p : Pos} (hc : CallR X (.builtin id) (lC X.K CR r)) (hm : X.mg x = none) (ha : PDA X (bs X CR E W) (e :: es) t) (hv : bootBuiltins x = some (.builtin id) := by decide +kernel) (hg : Gl X x := by rfl) (hn : x ≠ "__name__" := by decide) (hdb : (x == ("__debug__" : Str)) = false := by decide)
    (he : starEach (e :: es) X.env = (false, eval e X.env) :: starEach es X.env := by rfl) (hpl : (backTo pos (starEach es X.env)).any (·.1) = false := by rfl) : PD X (bs X CR E W) (.Call (.Name x p) (e :: es) [] pos) (dCB r t) := (pe_callB hc hg hm hv ha hn hdb he hpl).imp cb_ok
theorem d_Ty {x : Str} {e : Expr} {es : List Expr} {T : String} {r : DC} {t : DA} {p : Pos} (hc : CallR X (.type T) (lC X.K CR r)) (hm : X.mg x = none) (ha : PDA X (bs X CR E W) (e :: es) t) (hv : bootBuiltins x = some (.type T) := by decide +kernel) (hg : Gl X x := by rfl) (hn : x ≠ "__name__" := by decide) (hdb : (x == ("__debug__" : Str)) = false := by decide)
    (he : starEach (e :: es) X.env = (false, eval e X.env) :: starEach es X.env := by rfl) (hpl : (backTo pos (starEach es X.env)).any (·.1) = false := by rfl) : PD X (bs X CR E W) (.Call (.Name x p) (e :: es) [] pos) (dCB r t) := (pe_callTy hc hg hm hv ha hn hdb he hpl).imp cb_ok
/-! ### displays -/
def rTup : DC := fun ds M Q => ds.length ≤ sizeLine ∧ Q (.tup ds) M
def rLstV : DC := fun ds M Q => ds.length ≤ sizeLine ∧ Q (.lst ds) M
def rLstR : DC := fun ds M Q => ds.length ≤ sizeLine ∧ ∀ p, M p = none → Q (.ref p) (mput M p (.lst ds))
theorem dispE {t : DA} {r : DC} {f : List V → HO} (hr : ∀ P ds vs H M Qd, Reps ⟨X.K, CR, P⟩ H M ds vs → Good ⟨X.K, CR, P⟩ H M → r ds M Qd → vs.length ≤ sizeLine ∧ ∀ p, H p = none → LfV ⟨X.K, CR, P⟩ H M Qd (.ref p) (upd H p (f vs))) :
    ∀ σ H Q, lE (bs X CR E W) (dCB r t) σ H Q → lA (bs X CR E W) t σ H (fun xs H1 => xs.length ≤ sizeLine ∧ ∀ p, H1 p = none → Q (.ref p) (upd H1 p (f xs))) := by
  intro σ H Q h
  obtain ⟨P, δ, M, Qd, hS, g, x, w, k⟩ := h
  refine ⟨P, δ, M, _, hS, g, x, w, fun vs H1 ds M1 z1 g1 rs w1 => ?_⟩
  obtain ⟨h1, h2⟩ := hr P ds vs H1 M1 Qd rs g1 w1
  exact ⟨h1, fun p hp => k _ _ ((h2 p hp).trans z1)⟩
theorem newT {O : Own} {H M} {ds : List D} {vs : List V} {p : Addr} {o : Obj} {Q : DK} (g : Good O H M) (hp : H p = none) (t : TupO o) (rs : Reps O H M ds vs) (q : Q (.tup ds) M) : LfV O H M Q (.ref p) (upd H p (.frz o (.tup vs))) :=
  ⟨.tup ds, M, fz_new g hp, good_new g hp, ⟨p, vs, rfl, ⟨g.none hp, o, t, upd_same⟩, rs.mono (fz_new g hp)⟩, q⟩
/-- (..): a new tuple, known to the last -/
def tTupZ (ta : TA) : TE := fun σ H Q => ta σ H fun xs H1 => xs.length ≤ sizeLine ∧ ∀ p o, H1 p = none → TupO o → Q (.ref p) (upd H1 p (.frz o (.tup xs)))
theorem pe_tupZ {es : List Expr} {t : TA} {x1} (h : PA X es t) : PE X (.Tuple es x1 pos) (tTupZ t) := by
  refine ⟨fun pins s σ H Q I hq => ?_⟩
  refine wpAny_Tuple_spliced (thn (h.run pos pins s σ H _ I hq) fun us s1 ⟨xs, H1, I1, r, z, q⟩ => ⟨by rw [← r.length]; exact z, ?_⟩)
  have hf : H1 s1.heap.objs.size = none := I1.hok.fresh (Nat.le_refl _)
  refine ⟨.ref s1.heap.objs.size, _, I1.laid (t' := s1.toks) (fun b u e => Heap.get?_push_of_some _ e) (Nat.le_refl _) ?_, rfl, q _ _ hf (show TupO { cls := .type "tuple", data := .seq us.toArray } from rfl)⟩
  exact ⟨Heap.get?_push_size _ rfl, z, us, r, ⟨_, Heap.get?_push_size _ rfl, rfl, _, rfl⟩⟩
theorem newL {O : Own} {H M} {ds : List D} {vs : List V} {p : Addr} {Q : DK} (g : Good O H M) (hp : H p = none) (rs : Reps O H M ds vs) (q : Q (.lst ds) M) : LfV O H M Q (.ref p) (upd H p (.lst vs)) :=
  ⟨.lst ds, M, fz_new g hp, good_new g hp, ⟨p, vs, rfl, ⟨g.none hp, upd_same⟩, rs.mono (fz_new g hp)⟩, q⟩
theorem newR {O : Own} {H M} {ds : List D} {vs : List V} {p : Addr} {Q : DK} (g : Good O H M) (hp : H p = none) (rs : Reps O H M ds vs) (q : Q (.ref p) (mput M p (.lst ds))) : LfV O H M Q (.ref p) (upd H p (.lst vs)) :=
  ⟨.ref p, _, fz_newM g hp, good_put g (g.none hp).2 (fz_newM g hp) (show RepO O _ _ p (.lst ds) from ⟨vs, upd_same, rs.mono (fz_newM g hp)⟩), rfl, q⟩
theorem d_tup {es : List Expr} {t : DA} {x1} (h : PDA X (bs X CR E W) es t) : PD X (bs X CR E W) (.Tuple es x1 pos) (dCB rTup t) := (pe_tupZ h).imp fun σ H Q h => (by
  obtain ⟨P, δ, M, Qd, hS, g, x, w, k⟩ := h
  exact ⟨P, δ, M, _, hS, g, x, w, fun vs H1 ds M1 z1 g1 rs w1 => ⟨by rw [← rs.length]; exact w1.1, fun p o hp t => k _ _ ((newT g1 hp t rs w1.2).trans z1)⟩⟩)
theorem d_lst {es : List Expr} {t : DA} (h : PDA X (bs X CR E W) es t) : PD X (bs X CR E W) (.List es pos) (dCB rLstV t) := (pe_lst h).imp (dispE fun _ _ _ _ _ _ rs g w => ⟨by rw [← rs.length]; exact w.1, fun _ hp => newL g hp rs w.2⟩)
theorem d_lstR {es : List Expr} {t : DA} (h : PDA X (bs X CR E W) es t) : PD X (bs X CR E W) (.List es pos) (dCB rLstR t) := (pe_lst h).imp (dispE fun _ _ _ _ _ _ rs g w => ⟨by rw [← rs.length]; exact w.1, fun p hp => newR g hp rs (w.2 p (g.none hp).1)⟩)
/-! ### tests -/
def dTst (w : DE) : DT := fun δ M Q => w δ M fun d M1 => ∃ b, d = .bl b ∧ Q b M1
theorem tstE {w : DE} : ∀ σ H (Q : Bool → Hp → Prop), lT (bs X CR E W) (dTst w) σ H Q → lE (bs X CR E W) w σ H (fun x H1 => ∃ k, x = .bl k ∧ Q k H1) := by
  intro σ H Q h
  obtain ⟨P, δ, M, Qd, hS, g, x, w, k⟩ := h
  refine ⟨P, δ, M, _, hS, g, x, w, fun v H1 ⟨d, M1, z1, g1, r1, b, e, q⟩ => ?_⟩
  subst e
  exact ⟨b, r1, k b H1 M1 z1 g1 q⟩
theorem t_cmp {op : CmpOp} {r : D2} (ho : OpR X (compareOp op) (l2 X.K CR r)) (ha : PD X (bs X CR E W) a wa) (hb : PD X (bs X CR E W) b wb) (hm : behindInMarks op b = false := by first | exact nomark _ | rfl) : PDT X (bs X CR E W) (.Compare a [op] [b] pos) (dTst (dOp r wa wb)) :=
  (pt_cmpR ho ha hb hm).imp fun σ H Q h => op_ok σ H _ (by
    obtain ⟨P, δ, M, Qd, hS, g, x, w, k⟩ := h
    refine ⟨P, δ, M, _, hS, g, x, w, fun v H1 ⟨d, M1, z1, g1, r1, b, e, q⟩ => ?_⟩
    subst e
    exact ⟨b, r1, k b H1 M1 z1 g1 q⟩)
/-- a value that is True or False, as a test -/
theorem t_val {e : Expr} {w : DE} (h : PD X (bs X CR E W) e w) (he : ∀ whole, isTrue e X.env whole = (do let v ← whole; standAt e.pos; holding [v] (truthy v)) := by intro _; rfl) : PDT X (bs X CR E W) e (dTst w) := (pt_val h he).imp tstE
/-- any value as a test -/
def TruD : D → Mem → Bool → Prop
  | .non, _, k => k = false
  | .bl b, _, k => k = b
  | .int i, _, k => k = (i != 0)
  | .str y, _, k => y.length ≤ sizeLine ∧ k = ((y.length : Int) != 0)
  | .tup xs, _, k => k = !xs.isEmpty
  | .lst xs, _, k => k = !xs.isEmpty
  | .scr xs, _, k => k = !xs.isEmpty
  | .ref p, M, k => ∃ xs, M p = some (.lst xs) ∧ k = !xs.isEmpty
  | _, _, _ => False
def dTru (w : DE) : DT := fun δ M Q => w δ M fun d M1 => ∃ b, TruD d M1 b ∧ Q b M1
theorem Reps.isEmpty {O H M} {ds : List D} {vs : List V} (h : Reps O H M ds vs) : ds.isEmpty = vs.isEmpty := by
  have e := h.length
  cases ds <;> cases vs <;> simp_all
theorem truD_ok {O : Own} {H M} {d : D} {v : V} {k : Bool} (g : Good O H M) (r : Rep O H M d v) (t : TruD d M k) : TruV O.K v H k := by
  cases d with
  | non => rw [show v = .non from r]; exact t
  | bl b => rw [show v = .bl b from r]; exact t
  | int i => rw [show v = .int i from r]; exact t
  | str x => rw [show v = .str x from r]; exact t
  | tup xs =>
    obtain ⟨a, vs, rfl, f, rs⟩ := r
    exact .inr (.inl ⟨vs, f.sq, by rw [← rs.isEmpty]; exact t⟩)
  | lst xs =>
    obtain ⟨a, vs, rfl, f, rs⟩ := r
    exact .inl ⟨vs, f.sq, by rw [← rs.isEmpty]; exact t⟩
  | scr xs =>
    obtain ⟨a, vs, rfl, f, rs⟩ := r
    exact .inl ⟨vs, f.sq, by rw [← rs.isEmpty]; exact t⟩
  | ref p =>
    rw [show v = .ref p from r]
    obtain ⟨xs, e, t⟩ := t
    obtain ⟨vs, e1, rs⟩ := g.at_ p _ e
    exact .inl ⟨vs, .of e1, by rw [← rs.isEmpty]; exact t⟩
  | _ => exact t.elim
theorem t_tru {e : Expr} {w : DE} (h : PD X (bs X CR E W) e w) (he : ∀ whole, isTrue e X.env whole = (do let v ← whole; standAt e.pos; holding [v] (truthy v)) := by intro _; rfl) : PDT X (bs X CR E W) e (dTru w) := by
  refine (pt_truth h he).imp fun σ H Q h => ?_
  obtain ⟨P, δ, M, Qd, hS, g, x, w, k⟩ := h
  exact ⟨P, δ, M, _, hS, g, x, w, fun v H1 ⟨d, M1, z1, g1, r1, b, t, q⟩ => ⟨b, truD_ok g1 r1 t, k b H1 M1 z1 g1 q⟩⟩
def dAnd (t u : DT) : DT := fun δ M Q => t δ M fun c M1 => if c = true then u δ M1 Q else Q false M1
def dOr (t u : DT) : DT := fun δ M Q => t δ M fun c M1 => if c = true then Q true M1 else u δ M1 Q
def dNot (t : DT) : DT := fun δ M Q => t δ M fun c M1 => Q (!c) M1
variable {ta tb : DT} {rest : List Expr}
theorem thenT {f : DT → DT} {u : TT → TT} (hu : ∀ P δ M H σ (Q : Bool → Hp → Prop) Qd, RepS ⟨X.K, CR, P⟩ H M δ σ → Good ⟨X.K, CR, P⟩ H M → f ta δ M Qd → (∀ b H' M', Fz ⟨X.K, CR, P⟩ H M H' M' → Good ⟨X.K, CR, P⟩ H' M' → Qd b M' → Q b H') → u (lT (bs X CR E W) ta) σ H Q) :
    ∀ σ H Q, lT (bs X CR E W) (f ta) σ H Q → u (lT (bs X CR E W) ta) σ H Q := fun σ H Q ⟨P, δ, M, Qd, hS, g, x, w, k⟩ => hu P δ M H σ Q Qd hS g w k
theorem w_and1 (ha : PDT X (bs X CR E W) a ta) : PDW X (bs X CR E W) (.BoolOp .And [a] pos) ta := pw_and1 ha
theorem w_or1 (ha : PDT X (bs X CR E W) a ta) : PDW X (bs X CR E W) (.BoolOp .Or [a] pos) ta := pw_or1 ha
theorem w_and (ha : PDT X (bs X CR E W) a ta) (hb : PDW X (bs X CR E W) (.BoolOp .And (b :: rest) pos) tb) : PDW X (bs X CR E W) (.BoolOp .And (a :: b :: rest) pos) (dAnd ta tb) := by
  refine (pw_and ha hb).imp fun σ H Q h => ?_
  obtain ⟨P, δ, M, Qd, hS, g, x, w, k⟩ := h
  refine ⟨P, δ, M, _, hS, g, x, w, fun c H1 M1 z1 g1 q => ?_⟩
  cases c with
  | true => exact ⟨P, δ, M1, Qd, hS.mono z1, g1, x.trans z1, q, fun b H' M' z' g' q' => k b H' M' (z1.trans z') g' q'⟩
  | false => exact k false H1 M1 z1 g1 q
theorem w_or (ha : PDT X (bs X CR E W) a ta) (hb : PDW X (bs X CR E W) (.BoolOp .Or (b :: rest) pos) tb) : PDW X (bs X CR E W) (.BoolOp .Or (a :: b :: rest) pos) (dOr ta tb) := by
  refine (pw_or ha hb).imp fun σ H Q h => ?_
  obtain ⟨P, δ, M, Qd, hS, g, x, w, k⟩ := h
  refine ⟨P, δ, M, _, hS, g, x, w, fun c H1 M1 z1 g1 q => ?_⟩
  cases c with
  | false => exact ⟨P, δ, M1, Qd, hS.mono z1, g1, x.trans z1, q, fun b H' M' z' g' q' => k b H' M' (z1.trans z') g' q'⟩
  | true => exact k true H1 M1 z1 g1 q
theorem t_bool {e : Expr} {t : DT} (h : PDW X (bs X CR E W) e t) : PDT X (bs X CR E W) e t := h.pt
theorem t_not (ha : PDT X (bs X CR E W) a ta) : PDT X (bs X CR E W) (.UnaryOp .Not a pos) (dNot ta) := by
  refine (pt_not ha).imp fun σ H Q h => ?_
  obtain ⟨P, δ, M, Qd, hS, g, x, w, k⟩ := h
  exact ⟨P, δ, M, _, hS, g, x, w, fun c H1 M1 z1 g1 q => k (!c) H1 M1 z1 g1 q⟩
/-- and, or, not as values (True or False) -/
def dAndV (a b : DE) : DE := fun δ M Q => a δ M fun x M1 => ∃ c, x = .bl c ∧ if c = true then b δ M1 Q else Q (.bl false) M1
def dOrV (a b : DE) : DE := fun δ M Q => a δ M fun x M1 => ∃ c, x = .bl c ∧ if c = true then Q (.bl true) M1 else b δ M1 Q
def dNotV (a : DE) : DE := fun δ M Q => a δ M fun x M1 => ∃ c, x = .bl c ∧ Q (.bl (!c)) M1
theorem v_one {op} {w : DE} (h : PD X (bs X CR E W) a w) : PD X (bs X CR E W) (.BoolOp op [a] pos) w := pe_one h
theorem v_and (ha : PD X (bs X CR E W) a wa) (hb : PD X (bs X CR E W) (.BoolOp .And (b :: rest) pos) wb) : PD X (bs X CR E W) (.BoolOp .And (a :: b :: rest) pos) (dAndV wa wb) := by
  refine (pe_and ha hb).imp fun σ H Q h => ?_
  obtain ⟨P, δ, M, Qd, hS, g, x, w, k⟩ := h
  refine ⟨P, δ, M, _, hS, g, x, w, fun v H1 ⟨d, M1, z1, g1, r1, c, e, q⟩ => ?_⟩
  subst e
  refine ⟨c, r1, ?_⟩
  cases c with
  | true => exact ⟨P, δ, M1, Qd, hS.mono z1, g1, x.trans z1, q, fun v3 H3 l => k v3 H3 (l.trans z1)⟩
  | false => exact k _ H1 ((LfV.here (d := .bl _) g1 rfl q).trans z1)
theorem v_or (ha : PD X (bs X CR E W) a wa) (hb : PD X (bs X CR E W) (.BoolOp .Or (b :: rest) pos) wb) : PD X (bs X CR E W) (.BoolOp .Or (a :: b :: rest) pos) (dOrV wa wb) := by
  refine (pe_or ha hb).imp fun σ H Q h => ?_
  obtain ⟨P, δ, M, Qd, hS, g, x, w, k⟩ := h
  refine ⟨P, δ, M, _, hS, g, x, w, fun v H1 ⟨d, M1, z1, g1, r1, c, e, q⟩ => ?_⟩
  subst e
  refine ⟨c, r1, ?_⟩
  cases c with
  | false => exact ⟨P, δ, M1, Qd, hS.mono z1, g1, x.trans z1, q, fun v3 H3 l => k v3 H3 (l.trans z1)⟩
  | true => exact k _ H1 ((LfV.here (d := .bl _) g1 rfl q).trans z1)
theorem v_not (ha : PD X (bs X CR E W) a wa) : PD X (bs X CR E W) (.UnaryOp .Not a pos) (dNotV wa) := by
  refine (pe_not ha).imp fun σ H Q h => ?_
  obtain ⟨P, δ, M, Qd, hS, g, x, w, k⟩ := h
  refine ⟨P, δ, M, _, hS, g, x, w, fun v H1 ⟨d, M1, z1, g1, r1, c, e, q⟩ => ?_⟩
  subst e
  exact ⟨c, r1, k _ H1 ((LfV.here (d := .bl _) g1 rfl q).trans z1)⟩
def dIfE (t : DT) (a b : DE) : DE := fun δ M Q => t δ M fun c M1 => if c = true then a δ M1 Q else b δ M1 Q
theorem d_ifE {c : Expr} (hc : PDT X (bs X CR E W) c ta) (ha : PD X (bs X CR E W) a wa) (hb : PD X (bs X CR E W) b wb) : PD X (bs X CR E W) (.IfExp c a b pos) (dIfE ta wa wb) := by
  refine (pe_ifExp hc ha hb).imp fun σ H Q h => ?_
  obtain ⟨P, δ, M, Qd, hS, g, x, w, k⟩ := h
  refine ⟨P, δ, M, _, hS, g, x, w, fun c H1 M1 z1 g1 q => ?_⟩
  cases c with
  | true => exact ⟨P, δ, M1, Qd, hS.mono z1, g1, x.trans z1, q, fun v3 H3 l => k v3 H3 (l.trans z1)⟩
  | false => exact ⟨P, δ, M1, Qd, hS.mono z1, g1, x.trans z1, q, fun v3 H3 l => k v3 H3 (l.trans z1)⟩
/-- a op b op c -/
def dChain (r r' : D2) (a b c : DE) : DE := fun δ M Q => a δ M fun x M1 => b δ M1 fun y M2 => r x y M2 fun z M3 => ∃ k, z = .bl k ∧ (if k = true then c δ M3 fun u M4 => r' y u M4 Q else Q (.bl false) M3)
theorem chain_ok {r r' : D2} : ∀ σ H Q, lE (bs X CR E W) (dChain r r' wa wb wc) σ H Q → tChain (l2 X.K CR r) (l2 X.K CR r') (lE (bs X CR E W) wa) (lE (bs X CR E W) wb) (lE (bs X CR E W) wc) σ H Q := by
  intro σ H Q h
  obtain ⟨P, δ, M, Qd, hS, g, x, w, k⟩ := h
  refine ⟨P, δ, M, _, hS, g, x, w, fun v H1 ⟨d, M1, z1, g1, r1, w1⟩ => ?_⟩
  refine ⟨P, δ, M1, _, hS.mono z1, g1, x.trans z1, w1, fun v2 H2 ⟨d2, M2, z2, g2, r2, w2⟩ => ?_⟩
  refine ⟨P, d, d2, M2, _, r1.mono z2, r2, g2, w2, fun v3 H3 ⟨d3, M3, z3, g3, r3, b, e, q⟩ => ?_⟩
  subst e
  refine ⟨b, r3, ?_⟩
  cases b with
  | false => exact k _ H3 ((LfV.here (d := .bl _) g3 rfl q).trans ((z1.trans z2).trans z3))
  | true =>
    exact ⟨P, δ, M3, _, ((hS.mono z1).mono z2).mono z3, g3, x.trans ((z1.trans z2).trans z3), q, fun v4 H4 ⟨d4, M4, z4, g4, r4, w4⟩ => ⟨P, d2, d4, M4, _, (r2.mono z3).mono z4, r4, g4, w4, fun v5 H5 l => k v5 H5 (l.trans (((z1.trans z2).trans z3).trans z4))⟩⟩
theorem d_chain {op op' : CmpOp} {r r' : D2} (ho : OpR X (compareOp op) (l2 X.K CR r)) (ho' : OpR X (compareOp op') (l2 X.K CR r')) (ha : PD X (bs X CR E W) a wa) (hb : PD X (bs X CR E W) b wb) (hc : PD X (bs X CR E W) c wc)
    (hm : lastMarks [op, op'] [b, c] = false := by with_unfolding_all rfl) : PD X (bs X CR E W) (.Compare a [op, op'] [b, c] pos) (dChain r r' wa wb wc) := (pe_chain ho ho' ha hb hc hm).imp chain_ok
theorem t_chain {op op' : CmpOp} {r r' : D2} (ho : OpR X (compareOp op) (l2 X.K CR r)) (ho' : OpR X (compareOp op') (l2 X.K CR r')) (ha : PD X (bs X CR E W) a wa) (hb : PD X (bs X CR E W) b wb) (hc : PD X (bs X CR E W) c wc)
    (hm : lastMarks [op, op'] [b, c] = false := by with_unfolding_all rfl) : PDT X (bs X CR E W) (.Compare a [op, op'] [b, c] pos) (dTst (dChain r r' wa wb wc)) :=
  (pt_chain ho ho' ha hb hc hm).imp fun σ H Q h => chain_ok σ H _ (by
    obtain ⟨P, δ, M, Qd, hS, g, x, w, k⟩ := h
    refine ⟨P, δ, M, _, hS, g, x, w, fun v H1 ⟨d, M1, z1, g1, r1, b, e, q⟩ => ?_⟩
    subst e
    exact ⟨b, r1, k b H1 M1 z1 g1 q⟩)
end
/-! ### statements -/
def dNext : DSt := fun D δ M => D.nx δ M
def dSeq (t u : DSt) : DSt := fun D δ M => t { D with nx := u D } δ M
def dSet (i : Nat) (w : DE) : DSt := fun D δ M => w δ M fun d M1 => D.nx (δ.set i (some d)) M1
def dAsg (w : DE) (g : DG) : DSt := fun D δ M => w δ M fun d M1 => g d δ M1 D.nx
def dDrop (w : DE) : DSt := fun D δ M => w δ M fun _ M1 => D.nx δ M1
def dRet (w : DE) : DSt := fun D δ M => w δ M D.rt
def dRetN : DSt := fun D _ M => D.rt .non M
def dIf (c : DT) (t u : DSt) : DSt := fun D δ M => c δ M fun b M1 => if b = true then t D δ M1 else u D δ M1
def dBreak : DSt := fun D δ M => D.bk δ M
def dCont : DSt := fun D δ M => D.ct δ M
/-- what is told of d may be told of what it is when it is let go -/
def FrzQ (Q : DK) : DK := fun d M => (∃ p ds, d = .ref p ∧ M p = some (.lst ds) ∧ Q (.lst ds) (mdel M p)) ∨ (∃ p C ns ds, d = .ref p ∧ M p = some (.ins C ns ds) ∧ Q (.obj C ns ds) (mdel M p))
/-- return of a list that is let go -/
def dRetF (w : DE) : DSt := fun D δ M => w δ M (FrzQ D.rt)
theorem FrzQ.ok {O : Own} {H M Q v} (h : LfV O H M (FrzQ Q) v H') : LfV O H M Q v H' := by
  obtain ⟨d, M', z, g, r, q⟩ := h
  rcases q with ⟨p, ds, rfl, e, q⟩ | ⟨p, C, ns, ds, rfl, e, q⟩
  · rw [show v = .ref p from r]
    exact ⟨_, _, z.trans fz_del, good_del g, rep_frz g e, q⟩
  · rw [show v = .ref p from r]
    exact ⟨_, _, z.trans fz_del, good_del g, rep_frzO g e, q⟩
section
variable {X : Cx} {CR : Addr} {E : DXS} {W : WX} {e : Expr} {w : DE} {pos : Pos} {st : Stmt} {rest : List Stmt} {t u : DSt}
theorem s_nil : PDSs X (bs X CR E W) [] dNext := pss_nil.imp fun Dn σ H ⟨P, δ, M, Dd, hS, g, x, w, k⟩ => k.nx σ H ⟨δ, M, Fz.refl, g, hS, w⟩
theorem s_pass : PDS X (bs X CR E W) (.Pass pos) dNext := ps_pass.imp fun Dn σ H ⟨P, δ, M, Dd, hS, g, x, w, k⟩ => k.nx σ H ⟨δ, M, Fz.refl, g, hS, w⟩
theorem s_break : PDS X (bs X CR E W) (.Break pos) dBreak := ps_break.imp fun Dn σ H ⟨P, δ, M, Dd, hS, g, x, w, k⟩ => k.bk σ H ⟨δ, M, Fz.refl, g, hS, w⟩
theorem s_cont : PDS X (bs X CR E W) (.Continue pos) dCont := ps_continue.imp fun Dn σ H ⟨P, δ, M, Dd, hS, g, x, w, k⟩ => k.ct σ H ⟨δ, M, Fz.refl, g, hS, w⟩
theorem s_doc {x j pos pos'} : PDS X (bs X CR E W) (.Expr (.Constant (.str x) j pos) pos') dNext := ps_doc.imp fun Dn σ H ⟨P, δ, M, Dd, hS, g, x, w, k⟩ => k.nx σ H ⟨δ, M, Fz.refl, g, hS, w⟩
theorem s_cons (h1 : PDS X (bs X CR E W) st t) (h2 : PDSs X (bs X CR E W) rest u) : PDSs X (bs X CR E W) (st :: rest) (dSeq t u) := by
  refine (pss_cons h1 h2).imp fun Dn σ H h => ?_
  obtain ⟨P, δ, M, Dd, hS, g, x, w, k⟩ := h
  exact ⟨P, δ, M, _, hS, g, x, w, ⟨fun σ' H' ⟨δ', M', z, g', r', q⟩ => ⟨P, δ', M', Dd, r', g', x.trans z, q, k.trans z⟩, k.rt, k.bk, k.ct⟩⟩
theorem s_one (h1 : PDS X (bs X CR E W) st t) : PDSs X (bs X CR E W) [st] t := pss_one h1
theorem s_set {i : Nat} {x : Str} {pos' : Pos} (hN : X.N.Nodup) (he : PD X (bs X CR E W) e w) (hi : X.N[i]? = some x := by rfl) (hx : Loc X.env.scope x := by first | exact .inl rfl | exact .inr rfl) (hs : swapsWith e (some (.Name x pos')) pos.line X.env = pure false := by rfl) (hf : X.fn x = true ∨ X.env.scope.names.lookup x = some .local := by first | exact .inl rfl | exact .inr rfl | assumption) :
    PDS X (bs X CR E W) (.Assign [.Name x pos'] e pos) (dSet i w) := by
  refine (ps_set hN hi hx he hs hf).imp fun Dn σ H h => ?_
  obtain ⟨P, δ, M, Dd, hS, g, x, w, k⟩ := h
  exact ⟨P, δ, M, _, hS, g, x, w, fun v H1 ⟨d, M1, z1, g1, r1, q⟩ => k.nx _ H1 ⟨_, M1, z1, g1, (hS.mono z1).set r1, q⟩⟩
theorem s_asg {tg : Expr} {gd : DG} (he : PD X (bs X CR E W) e w) (hg : PDG X (bs X CR E W) tg gd) (hs : swapsWithSole [tg] e pos.line X.env = pure false := by rfl) (hw : swappedStores [tg] e X.env = pure none := by rfl)
    (h1 : (assignEach [tg] X.env).map (·.2) = [assign tg X.env] := by rfl) : PDS X (bs X CR E W) (.Assign [tg] e pos) (dAsg w gd) := by
  refine (ps_asg he hg hs hw h1).imp fun Dn σ H h => ?_
  obtain ⟨P, δ, M, Dd, hS, g, x, w, k⟩ := h
  exact ⟨P, δ, M, _, hS, g, x, w, fun v H1 ⟨d, M1, z1, g1, r1, q⟩ => ⟨P, d, δ, M1, _, r1, hS.mono z1, g1, x.trans z1, q, fun σ' H' l => k.nx σ' H' (l.trans z1)⟩⟩
theorem s_expr (he : PD X (bs X CR E W) e w) (hs : swapsWith e none pos.line X.env = pure false := by rfl) : PDS X (bs X CR E W) (.Expr e pos) (dDrop w) := by
  refine (ps_expr he hs).imp fun Dn σ H h => ?_
  obtain ⟨P, δ, M, Dd, hS, g, x, w, k⟩ := h
  exact ⟨P, δ, M, _, hS, g, x, w, fun v H1 ⟨d, M1, z1, g1, r1, q⟩ => k.nx _ H1 ⟨δ, M1, z1, g1, hS.mono z1, q⟩⟩
theorem s_ret (he : PD X (bs X CR E W) e w) : PDS X (bs X CR E W) (.Return (some e) pos) (dRet w) := by
  refine (ps_ret he).imp fun Dn σ H h => ?_
  obtain ⟨P, δ, M, Dd, hS, g, x, w, k⟩ := h
  exact ⟨P, δ, M, _, hS, g, x, w, k.rt⟩
theorem s_retF (he : PD X (bs X CR E W) e w) : PDS X (bs X CR E W) (.Return (some e) pos) (dRetF w) := by
  refine (ps_ret he).imp fun Dn σ H h => ?_
  obtain ⟨P, δ, M, Dd, hS, g, x, w, k⟩ := h
  exact ⟨P, δ, M, _, hS, g, x, w, fun v H' l => k.rt v H' (FrzQ.ok l)⟩
theorem s_retN : PDS X (bs X CR E W) (.Return none pos) dRetN := ps_retN.imp fun Dn σ H ⟨P, δ, M, Dd, hS, g, x, w, k⟩ => k.rt .non H ⟨.non, M, Fz.refl, g, rfl, w⟩
theorem s_if {c : Expr} {a b : List Stmt} {tc : DT} (hc : PDT X (bs X CR E W) c tc) (ha : PDSs X (bs X CR E W) a t) (hb : PDSs X (bs X CR E W) b u) : PDS X (bs X CR E W) (.If c a b pos) (dIf tc t u) := by
  refine (ps_if hc ha hb).imp fun Dn σ H h => ?_
  obtain ⟨P, δ, M, Dd, hS, g, x, w, k⟩ := h
  refine ⟨P, δ, M, _, hS, g, x, w, fun c H1 M1 z1 g1 q => ?_⟩
  cases c with
  | true => exact ⟨P, δ, M1, Dd, hS.mono z1, g1, x.trans z1, q, k.trans z1⟩
  | false => exact ⟨P, δ, M1, Dd, hS.mono z1, g1, x.trans z1, q, k.trans z1⟩
/-! ### targets -/
def gNm (i : Nat) : DG := fun d δ M Q => Q (δ.set i (some d)) M
theorem g_nm {i : Nat} {x : Str} (hN : X.N.Nodup) (hi : X.N[i]? = some x := by rfl) (hx : Loc X.env.scope x := by first | exact .inl rfl | exact .inr rfl) (hf : X.fn x = true ∨ X.env.scope.names.lookup x = some .local := by first | exact .inl rfl | exact .inr rfl | assumption) : PDG X (bs X CR E W) (.Name x pos) (gNm i) := by
  refine (pg_name hN hi hx hf).imp fun v σ H Q h => ?_
  obtain ⟨P, d, δ, M, Qd, r, hS, g, x, q, k⟩ := h
  exact k _ H ⟨_, M, Fz.refl, g, hS.set r, q⟩
/-- several targets: a tuple's, a list's items -/
abbrev DGs := List D → DS0 → Mem → (DS0 → Mem → Prop) → Prop
def lGs (B : Bs) (w : DGs) : TGs := fun vs σ H Q => ∃ P ds δ M Qd, Reps ⟨B.K, B.CR, P⟩ H M ds vs ∧ RepS ⟨B.K, B.CR, P⟩ H M δ σ ∧ Good ⟨B.K, B.CR, P⟩ H M ∧ XL ⟨B.K, B.CR, P⟩ H M B.E B.W ∧ w ds δ M Qd ∧ ∀ σ' H', LfS ⟨B.K, B.CR, P⟩ H M Qd σ' H' → Q σ' H'
def gsNil : DGs := fun ds δ M Q => ds = [] ∧ Q δ M
def gsCons (g : DG) (t : DGs) : DGs := fun ds δ M Q => ∃ d r, ds = d :: r ∧ g d δ M fun δ1 M1 => t r δ1 M1 Q
theorem _root_.L2.PGs.imp {X : Cx} {e : List Expr} {t t' : TGs} (h : PGs X e t) (i : ∀ v σ H Q, t' v σ H Q → t v σ H Q) : PGs X e t' := ⟨fun p s σ H v u Q I r q => h.run p s σ H v u Q I r (i v σ H Q q)⟩
abbrev PDGs (X : Cx) (B : Bs) (es : List Expr) (w : DGs) : Prop := PGs X es (lGs B w)
theorem gs_nil : PDGs X (bs X CR E W) [] gsNil := by
  refine PGs.imp pgs_nil fun vs σ H Q h => ?_
  obtain ⟨P, d, δ, M, Qd, r, hS, g, x, ⟨e, q⟩, k⟩ := h
  subst e
  exact ⟨r, k σ H ⟨δ, M, Fz.refl, g, hS, q⟩⟩
theorem gs_cons {e : Expr} {es : List Expr} {gd : DG} {t : DGs} (h1 : PDG X (bs X CR E W) e gd) (h2 : PDGs X (bs X CR E W) es t)
    (hs : (assignEach (e :: es) X.env).map (·.2) = assign e X.env :: (assignEach es X.env).map (·.2) := by rfl) : PDGs X (bs X CR E W) (e :: es) (gsCons gd t) := by
  refine PGs.imp (pgs_cons h1 h2 hs) fun vs σ H Q h => ?_
  obtain ⟨P, ds, δ, M, Qd, r, hS, g, x, ⟨d, rr, e, q⟩, k⟩ := h
  subst e
  obtain ⟨v, vr, rfl, r1, r2⟩ := r
  exact ⟨v, vr, rfl, P, d, δ, M, _, r1, hS, g, x, q, fun σ' H' ⟨δ', M', z, g', hS', q'⟩ => ⟨P, rr, δ', M', _, r2.mono z, hS', g', x.trans z, q', fun σ2 H2 l => k σ2 H2 (l.trans z)⟩⟩
def tupS : D → Option (List D)
  | .tup xs => some xs
  | .prs xs => some xs
  | _ => none
theorem tupS_at {O : Own} {H M} {d : D} {v : V} {xs : List D} (e : tupS d = some xs) (r : Rep O H M d v) : ∃ a vs, v = .ref a ∧ SqT O.K H a vs ∧ Reps O H M xs vs := by
  cases d with
  | tup ys => cases e; obtain ⟨a, vs, h, f, rs⟩ := r; exact ⟨a, vs, h, f.sq, rs⟩
  | prs ys => cases e; obtain ⟨a, vs, h, f, rs⟩ := r; exact ⟨a, vs, h, f.sq, rs⟩
  | _ => cases e
def gTu (n : Nat) (t : DGs) : DG := fun d δ M Q => ∃ xs, tupS d = some xs ∧ xs.length = n ∧ t xs δ M Q
theorem g_tu {es : List Expr} {k : Nat} {t : DGs} {n : Nat} (hc : X.calm = true) (h : PDGs X (bs X CR E W) es t)
    (hn : (assignEach es X.env).length = n := by rfl) (hst : (assignEach es X.env).findIdx? (·.1) = none := by rfl) : PDG X (bs X CR E W) (.Tuple es k pos) (gTu n t) := by
  refine (pg_tup hc h hn hst).imp fun v σ H Q h => ?_
  obtain ⟨P, d, δ, M, Qd, r, hS, g, x, ⟨xs, e, hl, q⟩, k⟩ := h
  obtain ⟨a, vs, rfl, f, rs⟩ := tupS_at e r
  exact ⟨a, vs, rfl, f, by rw [← rs.length]; exact hl, P, xs, δ, M, Qd, rs, hS, g, x, q, k⟩
/-- o[i] = v of a list of the memory -/
def gSb (wo wi : DE) : DG := fun v δ M Q => wo δ M fun o M1 => wi δ M1 fun i M2 => ∃ p xs k j, o = .ref p ∧ i = .int k ∧ M2 p = some (.lst xs) ∧ ixN xs.length k = some j ∧ Q δ (mput M2 p (.lst (xs.set j v)))
theorem g_sb {o i : Expr} {wo wi : DE} (ho : PD X (bs X CR E W) o wo) (hi : PD X (bs X CR E W) i wi)
    (ha : ∀ v, assign (.Subscript o i pos) X.env v = (do
      let ov ← holding [v] (eval o X.env)
      let iv ← holding [v, ov] (eval i X.env)
      standAt pos
      holding [v, ov, iv] (setItem ov iv v)
      release [v, ov, iv] []) := by intro _; rfl) : PDG X (bs X CR E W) (.Subscript o i pos) (gSb wo wi) := by
  refine (pg_sub ho hi set_list ha).imp fun v σ H Q h => ?_
  obtain ⟨P, d, δ, M, Qd, r, hS, g, x, q, k⟩ := h
  refine ⟨P, δ, M, _, hS, g, x, q, fun vo H1 ⟨o', M1, z1, g1, r1, q1⟩ => ⟨P, δ, M1, _, hS.mono z1, g1, x.trans z1, q1, fun vi H2 ⟨i', M2, z2, g2, r2, p, xs, kk, j, eo, ei, em, ix, q2⟩ => ?_⟩⟩
  subst eo; subst ei
  obtain ⟨vs, e1, rs⟩ := g2.at_ p _ em
  have z3 : Fz ⟨X.K, CR, P⟩ H2 M2 (upd H2 p (.lst (vs.set j v))) (mput M2 p (.lst (xs.set j d))) := fz_put g2 em
  refine ⟨p, vs, kk, j, (show vo = .ref p from r1), r2, e1, by rw [← rs.length]; exact ix, ?_⟩
  have rd := ((r.mono z1).mono z2)
  exact k σ _ ⟨δ, _, (z1.trans z2).trans z3, good_put g2 (g2.noP em) z3 ⟨_, upd_same, (Reps.set rd j rs).mono z3⟩, ((hS.mono z1).mono z2).mono z3, q2⟩
end
open PySem PySem.Spec PyProof.Rows L2 RZ
/-- from one view to another: all that is told by value is told by value there -/
structure Cv (O : Own) (H : Hp) (M : Mem) (O' : Own) (H' : Hp) (M' : Mem) : Prop where
  k : O'.K = O.K
  c : O'.CR = O.CR
  st : ∀ a o, Fre O M a → H a = some o → H' a = some o ∧ Fre O' M' a
theorem rd_cv {O O' H M H' M'} {a : Addr} {u : HO} (z : Cv O H M O' H' M') (m : Fre O M a) (r : Rd H a u) : Fre O' M' a ∧ Rd H' a u := by
  rcases r with r | ⟨o, r⟩
  · exact ⟨(z.st a _ m r).2, .inl (z.st a _ m r).1⟩
  · exact ⟨(z.st a _ m r).2, .inr ⟨o, (z.st a _ m r).1⟩⟩
section
variable {O O' : Own} {H H' : Hp} {M M' : Mem}
mutual
theorem Rep.cv (z : Cv O H M O' H' M') : ∀ {d : D} {v : V}, Rep O H M d v → Rep O' H' M' d v
  | .non, _, h => h
  | .bl _, _, h => h
  | .int _, _, h => h
  | .str _, _, h => h
  | .ref _, _, h => h
  | .ty _, _, h => h
  | .rat q, v, h => by
    obtain ⟨a, dx, e, m, h⟩ := h
    exact ⟨a, dx, e, (z.st a _ m h).2, by rw [z.c]; exact (z.st a _ m h).1⟩
  | .tup xs, v, h => by
    obtain ⟨a, vs, e, ⟨f1, o, t, f2⟩, r⟩ := h
    exact ⟨a, vs, e, ⟨(z.st a _ f1 f2).2, o, t, (z.st a _ f1 f2).1⟩, Reps.cv z r⟩
  | .prs xs, v, h => by
    obtain ⟨a, vs, e, f, r⟩ := h
    exact ⟨a, vs, e, ⟨(z.st a _ f.1 f.2).2, (z.st a _ f.1 f.2).1⟩, Reps.cv z r⟩
  | .lst xs, v, h => by
    obtain ⟨a, vs, e, f, r⟩ := h
    exact ⟨a, vs, e, ⟨(z.st a _ f.1 f.2).2, (z.st a _ f.1 f.2).1⟩, Reps.cv z r⟩
  | .scr xs, v, h => by
    obtain ⟨a, vs, e, f, r⟩ := h
    exact ⟨a, vs, e, f.elim (fun f => .inl (rd_cv z f.1 f.2)) (fun f => .inr (by rw [z.k]; exact f)), Reps.cv z r⟩
  | .obj C ns xs, v, h => by
    obtain ⟨a, dx, vs, e, m, h, l, r⟩ := h
    exact ⟨a, dx, vs, e, (z.st a _ m h).2, (z.st a _ m h).1, l, Reps.cv z r⟩
theorem Reps.cv (z : Cv O H M O' H' M') : ∀ {ds : List D} {vs : List V}, Reps O H M ds vs → Reps O' H' M' ds vs
  | [], _, h => h
  | d :: ds, vs, h => by
    obtain ⟨v, r, e, h1, h2⟩ := h
    exact ⟨v, r, e, Rep.cv z h1, Reps.cv z h2⟩
end
theorem RepO.cv (z : Cv O H M O' H' M') {a : Addr} {o : MO} (h : ∀ u, H a = some u → H' a = some u) (r : RepO O H M a o) : RepO O' H' M' a o := by
  cases o with
  | lst ds => obtain ⟨vs, e, r⟩ := r; exact ⟨vs, h _ e, r.cv z⟩
  | ins C ns ds => obtain ⟨dx, vs, e, l, r⟩ := r; exact ⟨dx, vs, h _ e, l, r.cv z⟩
  | dic ks ds => obtain ⟨vs, e, l, r⟩ := r; exact ⟨vs, h _ e, l, r.cv z⟩
theorem RepS.cv (z : Cv O H M O' H' M') {δ : DS0} {σ : L2.St} (r : RepS O H M δ σ) : RepS O' H' M' δ σ := ⟨r.1, fun i d e => let ⟨v, h, q⟩ := r.2 i d e; ⟨v, h, q.cv z⟩⟩
end
theorem FL.cv {O O' H H' M M'} (z : Cv O H M O' H' M') {a : Addr} {vs : List V} (f : FL O H M a vs) : FL O' H' M' a vs := ⟨(z.st a _ f.1 f.2).2, (z.st a _ f.1 f.2).1⟩
theorem FT.cv {O O' H H' M M'} (z : Cv O H M O' H' M') {a : Addr} {vs : List V} (f : FT O H M a vs) : FT O' H' M' a vs := let ⟨f1, o, t, e⟩ := f; ⟨(z.st a _ f1 e).2, o, t, (z.st a _ f1 e).1⟩
theorem FS.cv {O O' H H' M M'} (z : Cv O H M O' H' M') {a : Addr} {vs : List V} (f : FS O H M a vs) : FS O' H' M' a vs := f.elim (fun f => .inl (rd_cv z f.1 f.2)) (fun f => .inr (by rw [z.k]; exact f))
theorem Fz.cv {O H M H' M'} (z : Fz O H M H' M') : Cv O H M O H' M' := ⟨rfl, rfl, fun a o m e => ⟨(z.st a o m e).1, (z.st a o m e).2, m.2⟩⟩
/-! ### what a loop walks, over data -/
structure WalkD (O : Own) (J : It) (H0 : Hp) (M0 : Mem) (xs : List D) (chk : Mem → Prop) : Prop where
  goes : ∀ i O' H M, i < xs.length → Cv O H0 M0 O' H M → Good O' H M → chk M → J.go i H
  stops : ∀ O' H M, Cv O H0 M0 O' H M → Good O' H M → chk M → J.stop xs.length H
  yields : ∀ i O' H M d v H', xs[i]? = some d → Cv O H0 M0 O' H M → Good O' H M → chk M → J.yld i H v H' → Fz O' H M H' M ∧ Good O' H' M ∧ Rep O' H' M d v
abbrev DI := DS0 → Mem → (List D → (Mem → Prop) → Mem → Prop) → Prop
def lI (B : Bs) (w : DI) : TI := fun σ H R => ∃ P δ M Rd, RepS ⟨B.K, B.CR, P⟩ H M δ σ ∧ Good ⟨B.K, B.CR, P⟩ H M ∧ XL ⟨B.K, B.CR, P⟩ H M B.E B.W ∧ w δ M Rd ∧
  ∀ J H' xs chk M', Fz ⟨B.K, B.CR, P⟩ H M H' M' → Good ⟨B.K, B.CR, P⟩ H' M' → WalkD ⟨B.K, B.CR, P⟩ J H' M' xs chk → Rd xs chk M' → R J H'
abbrev PDI (X : Cx) (B : Bs) (tg it : Expr) (w : DI) : Prop := PI X tg it (lI B w)
theorem _root_.L2.PI.imp {X : Cx} {tg e : Expr} {t t' : TI} (h : PI X tg e t) (i : ∀ σ H R, t' σ H R → t σ H R) : PI X tg e t' := ⟨fun p s σ H R I q => h.run p s σ H R I (i σ H R q)⟩
def always : Mem → Prop := fun _ => True
/-- the items of a thing that is walked as it stands -/
def ItemsD : D → Mem → (List D → (Mem → Prop) → Prop) → Prop
  | .tup xs, _, k => k xs always
  | .lst xs, _, k => k xs always
  | .scr xs, _, k => k xs always
  | .ref p, M, k => ∃ xs, M p = some (.lst xs) ∧ k xs fun M' => M' p = some (.lst xs)
  | .str z, _, k => k (z.cps.toList.map fun c => .str ⟨#[c]⟩) always
  | _, _, _ => False
def dIt (w : DE) : DI := fun δ M R => w δ M fun d M1 => ItemsD d M1 fun xs chk => R xs chk M1
theorem walkD_list {O : Own} {H0 M0} {a : Addr} {vs : List V} {xs : List D} (f : FS O H0 M0 a vs) (r : Reps O H0 M0 xs vs) : WalkD O (Itl O.K a) H0 M0 xs always where
  goes := fun i O' H M hi z g _ => by
    have hl : i < vs.length := by rw [← r.length]; exact hi
    exact ⟨vs, vs[i], (z.k ▸ (f.cv z).sq), List.getElem?_eq_getElem hl⟩
  stops := fun O' H M z g _ => ⟨vs, (z.k ▸ (f.cv z).sq), by rw [r.length]; exact Nat.le_refl _⟩
  yields := fun i O' H M d v H' hd z g _ y => by
    obtain ⟨rfl, y⟩ := y
    have e := y vs (z.k ▸ (f.cv z).sq)
    obtain ⟨d', e1, r1⟩ := (r.cv z).getV e
    rw [hd] at e1; cases e1
    exact ⟨Fz.refl, g, r1⟩
theorem walkD_tup {O : Own} {H0 M0} {a : Addr} {vs : List V} {xs : List D} (f : FT O H0 M0 a vs) (r : Reps O H0 M0 xs vs) : WalkD O (Itt O.K a) H0 M0 xs always where
  goes := fun i O' H M hi z g _ => by
    have hl : i < vs.length := by rw [← r.length]; exact hi
    exact ⟨vs, vs[i], (z.k ▸ (f.cv z).sq), List.getElem?_eq_getElem hl⟩
  stops := fun O' H M z g _ => ⟨vs, (z.k ▸ (f.cv z).sq), by rw [r.length]; exact Nat.le_refl _⟩
  yields := fun i O' H M d v H' hd z g _ y => by
    obtain ⟨rfl, y⟩ := y
    have e := y vs (z.k ▸ (f.cv z).sq)
    obtain ⟨d', e1, r1⟩ := (r.cv z).getV e
    rw [hd] at e1; cases e1
    exact ⟨Fz.refl, g, r1⟩
theorem walkD_ref {O : Own} {H0 M0} {p : Addr} {xs : List D} : WalkD O (Itl O.K p) H0 M0 xs (fun M' => M' p = some (.lst xs)) where
  goes := fun i O' H M hi z g c => by
    obtain ⟨vs, e, r⟩ := g.at_ p _ c
    have hl : i < vs.length := by rw [← r.length]; exact hi
    exact ⟨vs, vs[i], .of e, List.getElem?_eq_getElem hl⟩
  stops := fun O' H M z g c => by
    obtain ⟨vs, e, r⟩ := g.at_ p _ c
    exact ⟨vs, .of e, by rw [r.length]; exact Nat.le_refl _⟩
  yields := fun i O' H M d v H' hd z g c y => by
    obtain ⟨rfl, y⟩ := y
    obtain ⟨vs, e, r⟩ := g.at_ p _ c
    obtain ⟨d', e1, r1⟩ := r.getV (y vs (.of e))
    rw [hd] at e1; cases e1
    exact ⟨Fz.refl, g, r1⟩
theorem walkD_str {O : Own} {H0 M0} {z : Str} : WalkD O (Its z) H0 M0 (z.cps.toList.map fun c => D.str ⟨#[c]⟩) always where
  goes := fun i O' H M hi _ g _ => by
    show i < z.cps.size
    simpa using hi
  stops := fun O' H M _ g _ => by simp [Its]
  yields := fun i O' H M d v H' hd _ g _ y => by
    obtain ⟨rfl, c, hc, rfl⟩ := y
    have e : (z.cps.toList.map fun c => D.str ⟨#[c]⟩)[i]? = some (.str ⟨#[c]⟩) := by
      rw [List.getElem?_map, Array.getElem?_toList, hc] <;> rfl
    rw [e] at hd; cases hd
    exact ⟨Fz.refl, g, rfl⟩
theorem walkD_range {O : Own} {H0 M0} {lo : Int} {n : Nat} : WalkD O (Itr lo n) H0 M0 ((List.range n).map fun (i : Nat) => D.int (lo + (i : Int))) always where
  goes := fun i O' H M hi _ g _ => by
    show i < n
    simpa using hi
  stops := fun O' H M _ g _ => by simp [Itr]
  yields := fun i O' H M d v H' hd _ g _ y => by
    obtain ⟨rfl, rfl⟩ := y
    have hi : i < n := by
      have := (List.getElem?_eq_some_iff.mp hd).1
      simpa using this
    rw [List.getElem?_map, List.getElem?_range hi] at hd
    cases hd
    exact ⟨Fz.refl, g, rfl⟩
def pairsD : List D → List D → List D
  | x :: xs, y :: ys => .prs [x, y] :: pairsD xs ys
  | _, _ => []
theorem pairsD_length : ∀ xs ys, (pairsD xs ys).length = min xs.length ys.length
  | [], ys => by simp [pairsD]
  | x :: xs, [] => by simp [pairsD]
  | x :: xs, y :: ys => by simp [pairsD, pairsD_length xs ys]
theorem pairsD_get : ∀ {xs ys : List D} {i : Nat} {d : D}, (pairsD xs ys)[i]? = some d → ∃ x y, xs[i]? = some x ∧ ys[i]? = some y ∧ d = .prs [x, y]
  | [], ys, i, d, h => by simp [pairsD] at h
  | x :: xs, [], i, d, h => by simp [pairsD] at h
  | x :: xs, y :: ys, 0, d, h => by simp [pairsD] at h; exact ⟨x, y, rfl, rfl, h.symm⟩
  | x :: xs, y :: ys, i + 1, d, h => by
    simp [pairsD] at h
    simpa using pairsD_get h
theorem pair_new {O : Own} {H M} {T : Addr} {x y : D} {u v : V} (g : Good O H M) (hT : H T = none) (rx : Rep O H M x u) (ry : Rep O H M y v) : Fz O H M (upd H T (.tup [u, v])) M ∧ Good O (upd H T (.tup [u, v])) M ∧ Rep O (upd H T (.tup [u, v])) M (.prs [x, y]) (.ref T) :=
  have z := fz_new (o := .tup [u, v]) g hT
  ⟨z, good_new g hT, T, [u, v], rfl, ⟨g.none hT, upd_same⟩, u, [v], rfl, rx.mono z, v, [], rfl, ry.mono z, rfl⟩
theorem walkD_zipL {O : Own} {H0 M0} {a b : Addr} {vs ws : List V} {xs ys : List D} (fa : ∀ O' H M, Cv O H0 M0 O' H M → Good O' H M → SqL O.K H a vs ∧ Reps O' H M xs vs) (fb : ∀ O' H M, Cv O H0 M0 O' H M → Good O' H M → SqL O.K H b ws ∧ Reps O' H M ys ws) (h0 : xs.length = vs.length) (h1 : ys.length = ws.length) : WalkD O (Itz O.K a b) H0 M0 (pairsD xs ys) always where
  goes := fun i O' H M hi z g _ => by
    rw [pairsD_length] at hi
    have l1 : i < vs.length := by omega
    have l2 : i < ws.length := by omega
    exact ⟨vs, ws, vs[i], ws[i], (fa O' H M z g).1, (fb O' H M z g).1, List.getElem?_eq_getElem l1, List.getElem?_eq_getElem l2⟩
  stops := fun O' H M z g _ => ⟨vs, ws, (fa O' H M z g).1, (fb O' H M z g).1, by rw [pairsD_length]; omega⟩
  yields := fun i O' H M d v H' hd z g _ y => by
    obtain ⟨T, u, w, rfl, hT, rfl, f1, f2⟩ := y
    obtain ⟨x, y, hx, hy, rfl⟩ := pairsD_get hd
    obtain ⟨d1, e1, r1⟩ := (fa O' H M z g).2.getV (f1 vs (fa O' H M z g).1)
    obtain ⟨d2, e2, r2⟩ := (fb O' H M z g).2.getV (f2 ws (fb O' H M z g).1)
    rw [hx] at e1; cases e1
    rw [hy] at e2; cases e2
    exact pair_new g hT r1 r2
theorem walkD_zipT {O : Own} {H0 M0} {a b : Addr} {vs ws : List V} {xs ys : List D} (fa : ∀ O' H M, Cv O H0 M0 O' H M → Good O' H M → SqT O.K H a vs ∧ Reps O' H M xs vs) (fb : ∀ O' H M, Cv O H0 M0 O' H M → Good O' H M → SqT O.K H b ws ∧ Reps O' H M ys ws) (h0 : xs.length = vs.length) (h1 : ys.length = ws.length) : WalkD O (ItzT O.K a b) H0 M0 (pairsD xs ys) always where
  goes := fun i O' H M hi z g _ => by
    rw [pairsD_length] at hi
    have l1 : i < vs.length := by omega
    have l2 : i < ws.length := by omega
    exact ⟨vs, ws, vs[i], ws[i], (fa O' H M z g).1, (fb O' H M z g).1, List.getElem?_eq_getElem l1, List.getElem?_eq_getElem l2⟩
  stops := fun O' H M z g _ => ⟨vs, ws, (fa O' H M z g).1, (fb O' H M z g).1, by rw [pairsD_length]; omega⟩
  yields := fun i O' H M d v H' hd z g _ y => by
    obtain ⟨T, u, w, rfl, hT, rfl, f1, f2⟩ := y
    obtain ⟨x, y, hx, hy, rfl⟩ := pairsD_get hd
    obtain ⟨d1, e1, r1⟩ := (fa O' H M z g).2.getV (f1 vs (fa O' H M z g).1)
    obtain ⟨d2, e2, r2⟩ := (fb O' H M z g).2.getV (f2 ws (fb O' H M z g).1)
    rw [hx] at e1; cases e1
    rw [hy] at e2; cases e2
    exact pair_new g hT r1 r2

section
variable {X : Cx} {CR : Addr} {E : DXS} {W : WX} {pos : Pos}
theorem i_it {tg l : Expr} {w : DE} (hl : PD X (bs X CR E W) l w) : PDI X (bs X CR E W) tg l (dIt w) := by
  refine ⟨fun pins s σ H R I h => ?_⟩
  obtain ⟨P, δ, M, Rd, hS, g, x, w, k⟩ := h
  refine thn (hl.run pins s σ H (fun v H' => LfV ⟨X.K, CR, P⟩ H M _ v H') I ⟨P, δ, M, _, hS, g, x, w, fun _ _ l => l⟩) fun u s1 hh => ?_
  obtain ⟨y, H1, I1, r1, d, M1, z1, g1, rd, q⟩ := hh
  cases d with
  | tup xs =>
    obtain ⟨a, vs, rfl, f, rs⟩ := rd
    cases r1
    have hq := f.sq
    obtain ⟨its, rv, pl, hz⟩ := I1.tuple hq
    refine wpAny_pyIter_tuple (show s1.heap.IsTuple a its.toArray from pl) ⟨s1.heap.objs.size, [s1.heap.objs.size], _, _, H1, rfl, I1.kept (t' := s1.toks) (fun b o e => Heap.get?_push_of_some _ e), turn_tuple a _, ⟨_, Heap.get?_push_size _ rfl, rfl, rfl⟩, fun b hb => ?_, k _ H1 xs _ M1 z1 g1 (walkD_tup f rs) q⟩
    rw [List.mem_singleton.mp hb]
    exact I1.fpOk (Nat.le_refl _) (I1.hok.fresh (Nat.le_refl _))
  | lst xs =>
    obtain ⟨a, vs, rfl, f, rs⟩ := rd
    cases r1
    obtain ⟨its, rv, pl, hz⟩ := I1.list f.sq
    refine wpAny_pyIter_list pl.isList ⟨s1.heap.objs.size, [s1.heap.objs.size], _, _, H1, rfl, I1.kept (t' := s1.toks) (fun b o e => Heap.get?_push_of_some _ e), turn_list a _, ⟨_, Heap.get?_push_size _ rfl, rfl, rfl⟩, fun b hb => ?_, k _ H1 xs _ M1 z1 g1 (walkD_list (.inl ⟨f.1, .inl f.2⟩) rs) q⟩
    rw [List.mem_singleton.mp hb]
    exact I1.fpOk (Nat.le_refl _) (I1.hok.fresh (Nat.le_refl _))
  | scr xs =>
    obtain ⟨a, vs, rfl, f, rs⟩ := rd
    cases r1
    obtain ⟨its, rv, pl, hz⟩ := I1.list f.sq
    refine wpAny_pyIter_list pl.isList ⟨s1.heap.objs.size, [s1.heap.objs.size], _, _, H1, rfl, I1.kept (t' := s1.toks) (fun b o e => Heap.get?_push_of_some _ e), turn_list a _, ⟨_, Heap.get?_push_size _ rfl, rfl, rfl⟩, fun b hb => ?_, k _ H1 xs _ M1 z1 g1 (walkD_list f rs) q⟩
    rw [List.mem_singleton.mp hb]
    exact I1.fpOk (Nat.le_refl _) (I1.hok.fresh (Nat.le_refl _))
  | ref p =>
    rw [show y = .ref p from rd] at r1
    cases r1
    obtain ⟨xs, e, q⟩ := q
    obtain ⟨vs, e1, rs⟩ := g1.at_ p _ e
    obtain ⟨its, rv, pl, hz⟩ := I1.list (SqL.of e1)
    refine wpAny_pyIter_list pl.isList ⟨s1.heap.objs.size, [s1.heap.objs.size], _, _, H1, rfl, I1.kept (t' := s1.toks) (fun b o e => Heap.get?_push_of_some _ e), turn_list p _, ⟨_, Heap.get?_push_size _ rfl, rfl, rfl⟩, fun b hb => ?_, k _ H1 xs _ M1 z1 g1 walkD_ref q⟩
    rw [List.mem_singleton.mp hb]
    exact I1.fpOk (Nat.le_refl _) (I1.hok.fresh (Nat.le_refl _))
  | str z =>
    rw [show y = .str z from rd] at r1
    obtain ⟨t, rfl⟩ := r1
    have q2 := k _ H1 _ _ M1 z1 g1 walkD_str q
    cases ha : z.cps.all (· < 128) with
    | false => exact wpAny_pyIter_wide ha (pi_one (tk := s1.toks) I1 _ (turn_str _ z t "str_iterator" (.inr rfl)) ⟨_, Heap.get?_push_size _ rfl, rfl, rfl⟩ q2)
    | true => exact wpAny_pyIter_ascii ha (pi_one (tk := s1.toks) I1 _ (turn_str _ z t "str_ascii_iterator" (.inl rfl)) ⟨_, Heap.get?_push_size _ rfl, rfl, rfl⟩ q2)
  | _ => exact (show False from q).elim
def rngD (i j : Int) : List D := (List.range (j - i).toNat).map fun (k : Nat) => .int (i + (k : Int))
def dRng1 (t : DA) : DI := fun δ M R => t δ M fun ds M1 => ∃ j : Int, ds = [.int j] ∧ (-(2 ^ 62) ≤ j ∧ j < 2 ^ 62) ∧ R (rngD 0 j) always M1
def dRng2 (t : DA) : DI := fun δ M R => t δ M fun ds M1 => ∃ i j : Int, ds = [.int i, .int j] ∧ (-(2 ^ 62) ≤ i ∧ i < 2 ^ 62 ∧ -(2 ^ 62) ≤ j ∧ j < 2 ^ 62) ∧ R (rngD i j) always M1
theorem i_rng1 {tg a : Expr} {ta : DA} {p : Pos} (hm : X.mg "range" = none) (ha : PDA X (bs X CR E W) [a] ta) (hg : Gl X "range" := by rfl) (hs : starEach [a] X.env = [(false, eval a X.env)] := by rfl) : PDI X (bs X CR E W) tg (.Call (.Name "range" p) [a] [] pos) (dRng1 ta) := by
  refine (pi_range1 hg hm ha hs).imp fun σ H R h => ?_
  obtain ⟨P, δ, M, Rd, hS, g, x, w, k⟩ := h
  refine ⟨P, δ, M, _, hS, g, x, w, fun vs H1 ds M1 z1 g1 rs q => ?_⟩
  obtain ⟨j, rfl, ⟨h1, h2⟩, q⟩ := q
  obtain ⟨v, r, rfl, e, e2⟩ := rs
  rw [show r = [] from e2, show v = .int j from e]
  refine ⟨j, rfl, h1, h2, k _ H1 (rngD 0 j) _ M1 z1 g1 ?_ q⟩
  rw [show j.toNat = (j - 0).toNat by rw [Int.sub_zero]]
  exact walkD_range
theorem i_rng2 {tg a b : Expr} {ta : DA} {p : Pos} (hm : X.mg "range" = none) (ha : PDA X (bs X CR E W) [a, b] ta) (hg : Gl X "range" := by rfl) (hs : starEach [a, b] X.env = [(false, eval a X.env), (false, eval b X.env)] := by rfl) (hs2 : starEach [b] X.env = [(false, eval b X.env)] := by rfl) : PDI X (bs X CR E W) tg (.Call (.Name "range" p) [a, b] [] pos) (dRng2 ta) := by
  refine (pi_range2 hg hm ha hs hs2).imp fun σ H R h => ?_
  obtain ⟨P, δ, M, Rd, hS, g, x, w, k⟩ := h
  refine ⟨P, δ, M, _, hS, g, x, w, fun vs H1 ds M1 z1 g1 rs q => ?_⟩
  obtain ⟨i, j, rfl, hb, q⟩ := q
  obtain ⟨v, r, rfl, e, v2, r2, rfl, e2, e3⟩ := rs
  rw [show r2 = [] from e3, show v = .int i from e, show v2 = .int j from e2]
  exact ⟨i, j, rfl, hb, k _ H1 (rngD i j) _ M1 z1 g1 walkD_range q⟩
/-- what zip takes: two lists or two tuples -/
def seqL (d : D) (M : Mem) (xs : List D) : Prop := d = .lst xs
def seqT (d : D) (xs : List D) : Prop := d = .tup xs
def dZip (t : DA) : DI := fun δ M R => t δ M fun ds M1 => ∃ xs ys, (ds = [.tup xs, .tup ys] ∨ ds = [.lst xs, .lst ys]) ∧ R (pairsD xs ys) always M1
theorem i_zip {e e2 : Expr} {ta : DA} {p tpos : Pos} {elts : List Expr} {kk : Nat} (hm : X.mg "zip" = none) (ha : PDA X (bs X CR E W) [e, e2] ta) (hg : Gl X "zip" := by rfl)
    (hs : starEach [e, e2] X.env = (false, eval e X.env) :: starEach [e2] X.env := by rfl) (hpl : (backTo pos (starEach [e2] X.env)).any (·.1) = false := by rfl) :
    PDI X (bs X CR E W) (.Tuple elts kk tpos) (.Call (.Name "zip" p) [e, e2] [] pos) (dZip ta) := by
  refine (pi_zipA hg hm ha hs hpl).imp fun σ H R h => ?_
  obtain ⟨P, δ, M, Rd, hS, g, x, w, k⟩ := h
  refine ⟨P, δ, M, _, hS, g, x, w, fun vs H1 ds M1 z1 g1 rs q => ?_⟩
  obtain ⟨xs, ys, e, q⟩ := q
  rcases e with rfl | rfl
  · obtain ⟨v, r, rfl, ⟨a, va, rfl, f1, r1⟩, v2, r2, rfl, ⟨b, vb, rfl, f2, r2'⟩, e3⟩ := rs
    rw [show r2 = [] from e3]
    exact ⟨a, b, va, vb, rfl, .inr ⟨f1.sq, f2.sq, k _ H1 _ _ M1 z1 g1 (walkD_zipT (fun O' H M z g => ⟨z.k ▸ (f1.cv z).sq, r1.cv z⟩) (fun O' H M z g => ⟨z.k ▸ (f2.cv z).sq, r2'.cv z⟩) r1.length r2'.length) q⟩⟩
  · obtain ⟨v, r, rfl, ⟨a, va, rfl, f1, r1⟩, v2, r2, rfl, ⟨b, vb, rfl, f2, r2'⟩, e3⟩ := rs
    rw [show r2 = [] from e3]
    exact ⟨a, b, va, vb, rfl, .inl ⟨f1.sq, f2.sq, k _ H1 _ _ M1 z1 g1 (walkD_zipL (fun O' H M z g => ⟨z.k ▸ (f1.cv z).sq, r1.cv z⟩) (fun O' H M z g => ⟨z.k ▸ (f2.cv z).sq, r2'.cv z⟩) r1.length r2'.length) q⟩⟩
end
/-! ### for -/
def dLoop (chk : Mem → Prop) (g : DG) (body : DSt) : List D → DSt
  | [], D, δ, M => chk M ∧ D.nx δ M
  | x :: xs, D, δ, M => chk M ∧ g x δ M fun δ1 M1 => body { D with nx := dLoop chk g body xs D, ct := dLoop chk g body xs D, bk := D.nx } δ1 M1
def dFor (it : DI) (g : DG) (body : DSt) : DSt := fun D δ M => it δ M fun xs chk M1 => dLoop chk g body xs D δ M1
section
variable {X : Cx} {CR : Addr} {E : DXS} {W : WX} {pos : Pos}
theorem dLoop_chk {chk g body xs D δ M} (h : dLoop chk g body xs D δ M) : chk M := by
  cases xs with
  | nil => exact h.1
  | cons x xs => exact h.1
theorem s_for {tg iter : Expr} {body : List Stmt} {it : DI} {gd : DG} {wb : DSt} (hp : PassesOwn (model X.prog X.w) X.A X.env X.xe) (hc : X.calm = true) (hi : PDI X (bs X CR E W) tg iter it) (hg : PDG X (bs X CR E W) tg gd) (hb : PDSs X (bs X CR E W) body wb)
    (hs : ∀ x, foldedSetIterable iter X.env x = pure x := by intro _; rfl) : PDS X (bs X CR E W) (.For tg iter body [] pos) (dFor it gd wb) := by
  refine (ps_for hp hc hi hg hb hs).imp fun Dn σ H h => ?_
  obtain ⟨P, δ, M, Dd, hS, g, x, w, k⟩ := h
  refine ⟨P, δ, M, _, hS, g, x, w, fun J H1 xs chk M1 z1 g1 W q => ?_⟩
  refine ⟨fun i m σ' H' => m = xs.length - i ∧ i ≤ xs.length ∧ ∃ δ' M', Fz ⟨X.K, CR, P⟩ H1 M1 H' M' ∧ RepS ⟨X.K, CR, P⟩ H' M' δ' σ' ∧ Good ⟨X.K, CR, P⟩ H' M' ∧ dLoop chk gd wb (xs.drop i) Dd δ' M',
    ⟨xs.length, by simp, Nat.zero_le _, δ, M1, Fz.refl, hS.mono z1, g1, by simpa using q⟩, fun i m σ' H' hw => ?_⟩
  obtain ⟨rfl, hi', δ', M', z, hS', g', hl⟩ := hw
  have hck := dLoop_chk hl
  by_cases hlt : i < xs.length
  · rw [List.drop_eq_getElem_cons hlt] at hl
    refine .inr ⟨W.goes i _ H' M' hlt z.cv g' hck, fun σ2 H2 => ∃ δ2 M2, Fz ⟨X.K, CR, P⟩ H1 M1 H2 M2 ∧ RepS ⟨X.K, CR, P⟩ H2 M2 δ2 σ2 ∧ Good ⟨X.K, CR, P⟩ H2 M2 ∧ dLoop chk gd wb (xs.drop (i + 1)) Dd δ2 M2, fun σ2 H2 hn => ⟨xs.length - (i + 1), by omega, rfl, hlt, hn⟩, fun v H2 hy => ?_⟩
    obtain ⟨z2, g2, rd⟩ := W.yields i _ H' M' _ v H2 (List.getElem?_eq_getElem hlt) z.cv g' hck hy
    refine ⟨P, xs[i], δ', M', _, rd, hS'.mono z2, g2, (x.trans z1).trans (z.trans z2), hl.2, fun σ3 H3 ⟨δ3, M3, z3, g3, hS3, q3⟩ => ?_⟩
    have zz := (z.trans z2).trans z3
    refine ⟨P, δ3, M3, _, hS3, g3, (x.trans z1).trans zz, q3, ⟨fun σ4 H4 ⟨δ4, M4, z4, g4, hS4, q4⟩ => ⟨δ4, M4, zz.trans z4, hS4, g4, q4⟩, fun v4 H4 l => k.rt v4 H4 ((l.trans zz).trans z1), fun σ4 H4 l => k.nx σ4 H4 ((l.trans zz).trans z1), fun σ4 H4 ⟨δ4, M4, z4, g4, hS4, q4⟩ => ⟨δ4, M4, zz.trans z4, hS4, g4, q4⟩⟩⟩
  · have e : i = xs.length := by omega
    subst e
    rw [List.drop_length] at hl
    exact .inl ⟨W.stops _ H' M' z.cv g' hck, k.nx σ' H' ⟨δ', M', z1.trans z, g', hS', hl.2⟩⟩
end
/-! ### list comprehensions -/
def wipeD (δ : DS0) : List Nat → DS0
  | [] => δ
  | v :: vs => (wipeD δ vs).set v none
theorem RepS.wipe {O : Own} {H M} {δ : DS0} {σ : L2.St} (r : RepS O H M δ σ) : ∀ vs : List Nat, RepS O H M (wipeD δ vs) (L2.wipe σ vs)
  | [] => r
  | v :: vs => (RepS.wipe r vs).unset
/-- a comprehension's target: it stores its own names alone -/
def CG (K : PySem.W.Frag) (CR : Addr) (vs : List Nat) (g : TG) (gd : DG) : Prop := ∀ P v d σ σ0 δ H M Qd, Rep ⟨K, CR, P⟩ H M d v → RepS ⟨K, CR, P⟩ H M δ σ → Good ⟨K, CR, P⟩ H M → L2.wipe σ vs = L2.wipe σ0 vs → gd d δ M Qd → g v σ H fun σ2 H2 => L2.wipe σ2 vs = L2.wipe σ0 vs ∧ LfS ⟨K, CR, P⟩ H M Qd σ2 H2
theorem wipe_get (σ : L2.St) : ∀ (vs : List Nat) (i : Nat), (L2.wipe σ vs)[i]? = if i ∈ vs ∧ i < σ.length then some none else σ[i]?
  | [], i => by simp [L2.wipe]
  | v :: vs, i => by
    have ih := wipe_get σ vs i
    show ((L2.wipe σ vs).set v none)[i]? = _
    rw [List.getElem?_set, wipe_length]
    by_cases h : v = i
    · subst h
      by_cases hl : v < σ.length
      · simp [hl]
      · simp [hl, List.getElem?_eq_none (Nat.le_of_not_lt hl)]
    · rw [if_neg h, ih]
      have h' : i ≠ v := fun e => h e.symm
      simp [h']
theorem wipe_set {σ : L2.St} {vs : List Nat} {j : Nat} {x : Option V} (h : j ∈ vs) : L2.wipe (σ.set j x) vs = L2.wipe σ vs := by
  apply List.ext_getElem?
  intro i
  rw [wipe_get, wipe_get, List.length_set, List.getElem?_set]
  by_cases e : j = i
  · subst e
    by_cases hl : j < σ.length
    · simp [h, hl]
    · simp [hl, List.getElem?_eq_none (Nat.le_of_not_lt hl)]
  · rw [if_neg e]
theorem wipe_wipe {σ : L2.St} {vs : List Nat} : L2.wipe (L2.wipe σ vs) vs = L2.wipe σ vs := by
  apply List.ext_getElem?
  intro i
  rw [wipe_get, wipe_get, wipe_length]
  split <;> rfl
theorem cg_nm {K CR} {vs : List Nat} {j : Nat} (h : j ∈ vs) : CG K CR vs (gName j) (gNm j) := by
  intro P v d σ σ0 δ H M Qd r hS g hw q
  exact ⟨by rw [wipe_set h]; exact hw, _, M, Fz.refl, g, hS.set r, q⟩
def CGs (K : PySem.W.Frag) (CR : Addr) (vs : List Nat) (g : TGs) (gd : DGs) : Prop := ∀ P xs ds σ σ0 δ H M Qd, Reps ⟨K, CR, P⟩ H M ds xs → RepS ⟨K, CR, P⟩ H M δ σ → Good ⟨K, CR, P⟩ H M → L2.wipe σ vs = L2.wipe σ0 vs → gd ds δ M Qd → g xs σ H fun σ2 H2 => L2.wipe σ2 vs = L2.wipe σ0 vs ∧ LfS ⟨K, CR, P⟩ H M Qd σ2 H2
theorem cgs_nil {K CR vs} : CGs K CR vs gNil gsNil := by
  intro P xs ds σ σ0 δ H M Qd r hS g hw ⟨e, q⟩
  subst e
  exact ⟨r, hw, δ, M, Fz.refl, g, hS, q⟩
theorem cgs_cons {K CR vs} {g1 : TG} {gd : DG} {t : TGs} {td : DGs} (h1 : CG K CR vs g1 gd) (mono : ∀ v σ H Q Q', (∀ σ H, Q σ H → Q' σ H) → g1 v σ H Q → g1 v σ H Q') (h2 : CGs K CR vs t td) (monos : ∀ v σ H Q Q', (∀ σ H, Q σ H → Q' σ H) → t v σ H Q → t v σ H Q') : CGs K CR vs (gCons g1 t) (gsCons gd td) := by
  intro P xs ds σ σ0 δ H M Qd r hS g hw ⟨d, rr, e, q⟩
  subst e
  obtain ⟨v, vr, rfl, r1, r2⟩ := r
  refine ⟨v, vr, rfl, mono _ _ _ _ _ (fun σ' H' hh => ?_) (h1 P v d σ σ0 δ H M _ r1 hS g hw q)⟩
  obtain ⟨hw', δ', M', z, g', hS', q'⟩ := hh
  exact monos _ _ _ _ _ (fun σ2 H2 hh => ⟨hh.1, hh.2.trans z⟩) (h2 P vr rr σ' σ0 δ' H' M' Qd (r2.mono z) hS' g' hw' q')
theorem mono_nm {j : Nat} : ∀ v σ H (Q Q' : L2.St → Hp → Prop), (∀ σ H, Q σ H → Q' σ H) → gName j v σ H Q → gName j v σ H Q' := fun v σ H Q Q' i h => i _ _ h
theorem mono_nil : ∀ v σ H (Q Q' : L2.St → Hp → Prop), (∀ σ H, Q σ H → Q' σ H) → gNil v σ H Q → gNil v σ H Q' := fun v σ H Q Q' i h => ⟨h.1, i _ _ h.2⟩
theorem mono_cons {g : TG} {t : TGs} (m : ∀ v σ H (Q Q' : L2.St → Hp → Prop), (∀ σ H, Q σ H → Q' σ H) → g v σ H Q → g v σ H Q') (ms : ∀ v σ H (Q Q' : L2.St → Hp → Prop), (∀ σ H, Q σ H → Q' σ H) → t v σ H Q → t v σ H Q') : ∀ v σ H (Q Q' : L2.St → Hp → Prop), (∀ σ H, Q σ H → Q' σ H) → gCons g t v σ H Q → gCons g t v σ H Q' := fun v σ H Q Q' i h => by
  obtain ⟨x, r, e, q⟩ := h
  exact ⟨x, r, e, m _ _ _ _ _ (fun σ1 H1 h1 => ms _ _ _ _ _ i h1) q⟩
theorem mono_tu {K : PySem.W.Frag} {n : Nat} {t : TGs} (ms : ∀ v σ H (Q Q' : L2.St → Hp → Prop), (∀ σ H, Q σ H → Q' σ H) → t v σ H Q → t v σ H Q') : ∀ v σ H (Q Q' : L2.St → Hp → Prop), (∀ σ H, Q σ H → Q' σ H) → gTup K n t v σ H Q → gTup K n t v σ H Q' := fun v σ H Q Q' i ⟨a, ws, e, f, l, q⟩ => ⟨a, ws, e, f, l, ms _ _ _ _ _ i q⟩
theorem cg_tu {K CR vs} {n : Nat} {t : TGs} {td : DGs} (h : CGs K CR vs t td) : CG K CR vs (gTup K n t) (gTu n td) := by
  intro P v d σ σ0 δ H M Qd r hS g hw ⟨xs, e, hl, q⟩
  obtain ⟨a, ws, rfl, f, rs⟩ := tupS_at e r
  exact ⟨a, ws, rfl, f, by rw [← rs.length]; exact hl, h P ws xs σ σ0 δ H M Qd rs hS g hw q⟩

/-- [e for target in iter if t]: from what has been made -/
def dLcL (chk : Mem → Prop) (g : DG) (tt : DT) (te : DE) (δ : DS0) : List D → List D → Mem → (List D → Mem → Prop) → Prop
  | [], acc, M, Q => chk M ∧ Q acc M
  | x :: xs, acc, M, Q => chk M ∧ acc.length < sizeLine ∧ g x δ M fun δ2 M2 => tt δ2 M2 fun b M3 => if b = true then te δ2 M3 fun y M4 => dLcL chk g tt te δ xs (acc ++ [y]) M4 Q else dLcL chk g tt te δ xs acc M3 Q
def dYes : DT := fun _ M Q => Q true M
/-- let go at once | kept for changing -/
def dLc (it : DI) (g : DG) (tt : DT) (te : DE) (vs : List Nat) : DE := fun δ M Q => it δ M fun xs chk M1 => dLcL chk g tt te (wipeD δ vs) xs [] M1 fun acc M2 => Q (.lst acc) M2
def dLcR (it : DI) (g : DG) (tt : DT) (te : DE) (vs : List Nat) : DE := fun δ M Q => it δ M fun xs chk M1 => dLcL chk g tt te (wipeD δ vs) xs [] M1 fun acc M2 => ∀ p, M2 p = none → Q (.ref p) (mput M2 p (.lst acc))
abbrev PDTs (X : Cx) (B : Bs) (ifs : List Expr) (w : DT) : Prop := PTs X ifs (lT B w)
theorem _root_.L2.PTs.imp {X : Cx} {e : List Expr} {t t' : TT} (h : PTs X e t) (i : ∀ σ H Q, t' σ H Q → t σ H Q) : PTs X e t' := ⟨fun p s σ H Q I q => h.run p s σ H Q I (i σ H Q q)⟩
theorem ts_nil {X : Cx} {CR : Addr} {E : DXS} {W : WX} : PDTs X (bs X CR E W) [] dYes := PTs.imp pts_nil fun σ H Q ⟨P, δ, M, Qd, hS, g, x, w, k⟩ => k true H M Fz.refl g w
theorem ts_one {X : Cx} {CR : Addr} {E : DXS} {W : WX} {c : Expr} {t : DT} (h : PDT X (bs X CR E W) c t) : PDTs X (bs X CR E W) [c] t := pts_one h
theorem dLcL_chk {chk g tt te δ xs acc M Q} (h : dLcL chk g tt te δ xs acc M Q) : chk M := by
  cases xs with
  | nil => exact h.1
  | cons x xs => exact h.1
/-- the same, L hidden besides -/
def hide (O : Own) (L : Addr) : Own := ⟨O.K, O.CR, fun a => O.P a ∨ a = L⟩
section
variable {O : Own} {H : Hp} {M : Mem} {L : Addr}
theorem cv_hide (h : H L = none) {o : HO} : Cv O H M (hide O L) (upd H L o) M := ⟨rfl, rfl, fun a u m e => by
  have n := ne_of_none e h
  exact ⟨by rw [upd_ne n]; exact e, m.1, fun q => q.elim m.2 n⟩⟩
theorem cv_unhide : Cv (hide O L) H M O H M := ⟨rfl, rfl, fun a u m e => ⟨e, m.1, fun q => m.2 (.inl q)⟩⟩
theorem cv_updh {o : HO} : Cv (hide O L) H M (hide O L) (upd H L o) M := ⟨rfl, rfl, fun a u m e => ⟨by rw [upd_ne fun z => m.2 (.inr z)]; exact e, m⟩⟩
theorem cv_put {o : MO} : Cv (hide O L) H M O H (mput M L o) := ⟨rfl, rfl, fun a u m e => ⟨e, by rw [mput_ne fun z => m.2 (.inr z)]; exact m.1, fun q => m.2 (.inl q)⟩⟩
theorem good_hide (g : Good O H M) (h : H L = none) {o : HO} : Good (hide O L) (upd H L o) M := ⟨fun a u m => by
  have r := g.at_ a u m
  have n : a ≠ L := fun z => r.there (z ▸ h)
  exact r.cv (cv_hide h) fun v e => by rw [upd_ne n]; exact e, fun a q => by
  by_cases n : a = L
  · subst n
    exact ⟨(g.none h).1, by rw [upd_same]; simp⟩
  · rw [upd_ne n]
    exact g.hid a (q.resolve_right n)⟩
theorem good_unhide (g : Good (hide O L) H M) : Good O H M := ⟨fun a u m => (g.at_ a u m).cv cv_unhide fun _ e => e, fun a q => g.hid a (.inl q)⟩
theorem good_updh (g : Good (hide O L) H M) {o : HO} : Good (hide O L) (upd H L o) M := ⟨fun a u m => by
  have n : a ≠ L := fun z => by
    have := (g.hid L (.inr rfl)).1
    rw [← z, m] at this; cases this
  exact (g.at_ a u m).cv cv_updh fun v e => by rw [upd_ne n]; exact e, fun a q => by
  by_cases n : a = L
  · subst n
    exact ⟨(g.hid a q).1, by rw [upd_same]; simp⟩
  · rw [upd_ne n]; exact g.hid a q⟩
theorem good_shown (g : Good (hide O L) H M) (np : ¬ O.P L) {vs : List V} {ds : List D} (h : H L = some (.lst vs)) (r : Reps (hide O L) H M ds vs) : Good O H (mput M L (.lst ds)) := ⟨fun a u m => by
  by_cases n : a = L
  · subst n
    rw [mput_same] at m; cases m
    exact ⟨vs, h, r.cv cv_put⟩
  · rw [mput_ne n] at m
    exact (g.at_ a u m).cv cv_put fun _ e => e, fun a q => by
  have n : a ≠ L := fun z => np (z ▸ q)
  rw [mput_ne n]
  exact g.hid a (.inl q)⟩
/-- since the start, L apart -/
theorem fz_past {H0 H' : Hp} {M0 M' : Mem} (z : Fz O H0 M0 H M) (h : H0 L = none) (np : ¬ O.P L) (z2 : Fz (hide O L) H M H' M') : Fz O H0 M0 H' M' := ⟨fun a u m e => by
  have n := ne_of_none e h
  obtain ⟨e1, m1⟩ := z.st a u m e
  exact z2.st a u ⟨m1, fun q => q.elim m.2 n⟩ e1, fun a q => (z2.hid a (.inl q)).trans (z.hid a q)⟩
theorem cv_past {H0 : Hp} {M0 : Mem} (z : Fz O H0 M0 H M) (h : H0 L = none) (np : ¬ O.P L) : Cv O H0 M0 (hide O L) H M := ⟨rfl, rfl, fun a u m e =>
  ⟨(z.st a u m e).1, (z.st a u m e).2, fun q => q.elim m.2 (ne_of_none e h)⟩⟩
theorem fz_updh {H0 : Hp} {M0 : Mem} (z : Fz O H0 M0 H M) (h : H0 L = none) (np : ¬ O.P L) {o : HO} : Fz O H0 M0 (upd H L o) M := ⟨fun a u m e => by
  have n := ne_of_none e h
  rw [upd_ne n]
  exact z.st a u m e, fun a q => by
  have n : a ≠ L := fun e => np (e ▸ q)
  rw [upd_ne n]
  exact z.hid a q⟩
end
theorem lcE {X : Cx} {CR : Addr} {E : DXS} {W : WX} {it : DI} {g : TG} {gd : DG} {tt : DT} {te : DE} {vs : List Nat} {F : List D → Mem → DK → Prop}
    (hg : CG X.K CR vs g gd) (mono : ∀ v σ H (Q Q' : L2.St → Hp → Prop), (∀ σ H, Q σ H → Q' σ H) → g v σ H Q → g v σ H Q')
    (hF : ∀ (O : Own) (H0 H : Hp) (M : Mem) (L : Addr) (us : List V) (acc : List D) (Qd : DK), H0 L = none → ¬ O.P L → Good (hide O L) H M → H L = some (.lst us) → Reps (hide O L) H M acc us → F acc M Qd → ∃ d M', (∀ H0 M0, Fz O H0 M0 H M → H0 L = none → Fz O H0 M0 H M') ∧ Good O H M' ∧ Rep O H M' d (.ref L) ∧ Qd d M') :
    ∀ σ H Q, lE (bs X CR E W) (fun δ M Q => it δ M fun xs chk M1 => dLcL chk gd tt te (wipeD δ vs) xs [] M1 fun acc M2 => F acc M2 Q) σ H Q → tLc (lI (bs X CR E W) it) g (lT (bs X CR noE noW) tt) (lE (bs X CR noE noW) te) vs σ H Q := by
  intro σ H Q h
  obtain ⟨P, δ, M, Qd, hS, g0, x, w, k⟩ := h
  refine ⟨P, δ, M, _, hS, g0, x, w, fun J H1 xs chk M1 z1 g1 W q => fun L hL => ?_⟩
  have np : ¬ P L := (g1.none hL).2
  refine ⟨fun i m H' => m = xs.length - i ∧ i ≤ xs.length ∧ ∃ M' us acc, Fz ⟨X.K, CR, P⟩ H1 M1 H' M' ∧ Good (hide ⟨X.K, CR, P⟩ L) H' M' ∧ RepS (hide ⟨X.K, CR, P⟩ L) H' M' (wipeD δ vs) (L2.wipe σ vs) ∧ H' L = some (.lst us) ∧ Reps (hide ⟨X.K, CR, P⟩ L) H' M' acc us ∧
      dLcL chk gd tt te (wipeD δ vs) (xs.drop i) acc M' (fun acc M2 => F acc M2 Qd), ⟨xs.length, by simp, Nat.zero_le _, M1, [], [], fz_new g1 hL, good_hide g1 hL, ((hS.mono z1).cv (cv_hide hL)).wipe vs, upd_same, rfl, by simpa using q⟩, fun i m H' hw => ?_⟩
  obtain ⟨rfl, hi', M', us, acc, z, g', hS', hLs, ra, hl⟩ := hw
  have hck := dLcL_chk hl
  have zc := cv_past z hL (g1.none hL).2
  by_cases hlt : i < xs.length
  · rw [List.drop_eq_getElem_cons hlt] at hl
    obtain ⟨_, hz, hl⟩ := hl
    refine .inr ⟨W.goes i _ H' M' hlt zc g' hck, fun H2 => ∃ M2 us acc, Fz ⟨X.K, CR, P⟩ H1 M1 H2 M2 ∧ Good (hide ⟨X.K, CR, P⟩ L) H2 M2 ∧ RepS (hide ⟨X.K, CR, P⟩ L) H2 M2 (wipeD δ vs) (L2.wipe σ vs) ∧ H2 L = some (.lst us) ∧ Reps (hide ⟨X.K, CR, P⟩ L) H2 M2 acc us ∧
      dLcL chk gd tt te (wipeD δ vs) (xs.drop (i + 1)) acc M2 (fun acc M2 => F acc M2 Qd), fun H2 hn => ⟨xs.length - (i + 1), by omega, rfl, hlt, hn⟩, fun v H2 hy => ?_⟩
    obtain ⟨z2, g2, rd⟩ := W.yields i _ H' M' _ v H2 (List.getElem?_eq_getElem hlt) zc g' hck hy
    refine hg _ v _ _ σ (wipeD δ vs) H2 M' _ rd (hS'.mono z2) g2 wipe_wipe hl |> mono _ _ _ _ _ fun σ3 H3 hh => ?_
    obtain ⟨hw3, δ3, M3, z3, g3, hS3, q3⟩ := hh
    refine ⟨hw3, _, δ3, M3, _, hS3, g3, XL.no, q3, fun b H4 M4 z4 g4 q4 => ?_⟩
    have zz := (z2.trans z3).trans z4
    cases b with
    | false => exact ⟨M4, us, acc, fz_past z hL np zz, g4, hS'.mono zz, (zz.hid L (.inr rfl)).trans hLs, ra.mono zz, q4⟩
    | true =>
      refine ⟨_, δ3, M4, _, hS3.mono z4, g4, XL.no, q4, fun v5 H5 ⟨d5, M5, z5, g5, r5, q5⟩ => ?_⟩
      have z6 := zz.trans z5
      refine ⟨us, (z6.hid L (.inr rfl)).trans hLs, by rw [← ra.length]; exact hz, M5, us ++ [v5], acc ++ [d5], fz_updh (fz_past z hL np z6) hL np, good_updh (O := ⟨X.K, CR, P⟩) g5, (hS'.mono z6).cv (cv_updh (O := ⟨X.K, CR, P⟩)), upd_same, ((ra.mono z6).append (Reps.one r5)).cv (cv_updh (O := ⟨X.K, CR, P⟩)), q5⟩
  · have e : i = xs.length := by omega
    subst e
    rw [List.drop_length] at hl
    refine .inl ⟨W.stops _ H' M' zc g' hck, ?_⟩
    obtain ⟨d, M2, f2, g2, r2, q2⟩ := hF ⟨X.K, CR, P⟩ H1 H' M' L us acc Qd hL np g' hLs ra hl.2
    exact k _ H' ⟨d, M2, z1.trans (f2 H1 M1 z hL), g2, r2, q2⟩
theorem fin_lst : ∀ (O : Own) (H0 H : Hp) (M : Mem) (L : Addr) (us : List V) (acc : List D) (Qd : DK), H0 L = none → ¬ O.P L → Good (hide O L) H M → H L = some (.lst us) → Reps (hide O L) H M acc us → Qd (.lst acc) M → ∃ d M', (∀ H0 M0, Fz O H0 M0 H M → H0 L = none → Fz O H0 M0 H M') ∧ Good O H M' ∧ Rep O H M' d (.ref L) ∧ Qd d M' :=
  fun O H0 H M L us acc Qd h0 np g hL r q => ⟨.lst acc, M, fun _ _ z _ => z, good_unhide g, ⟨L, us, rfl, ⟨⟨(g.hid L (.inr rfl)).1, np⟩, hL⟩, r.cv cv_unhide⟩, q⟩
theorem fin_ref : ∀ (O : Own) (H0 H : Hp) (M : Mem) (L : Addr) (us : List V) (acc : List D) (Qd : DK), H0 L = none → ¬ O.P L → Good (hide O L) H M → H L = some (.lst us) → Reps (hide O L) H M acc us → (∀ p, M p = none → Qd (.ref p) (mput M p (.lst acc))) → ∃ d M', (∀ H0 M0, Fz O H0 M0 H M → H0 L = none → Fz O H0 M0 H M') ∧ Good O H M' ∧ Rep O H M' d (.ref L) ∧ Qd d M' :=
  fun O H0 H M L us acc Qd h0 np g hL r q => ⟨.ref L, mput M L (.lst acc), fun H0 M0 z h => ⟨fun a u m e => by
    have n := ne_of_none e h
    exact ⟨(z.st a u m e).1, by rw [mput_ne n]; exact (z.st a u m e).2⟩, z.hid⟩, good_shown g np hL r, rfl, q L (g.hid L (.inr rfl)).1⟩
section
variable {X : Cx} {CR : Addr} {E : DXS} {W : WX} {pos : Pos}
/-- the comprehension as a value; own: its names and their slots; g, gd: its target's two readings -/
theorem d_lc {elt tg iter : Expr} {ifs : List Expr} {scope : Scope} {own : List (Str × Nat)} {it : DI} {g : TG} {gd : DG} {tt : DT} {te : DE} (hc : X.calm = true) (hN : X.N.Nodup) (hi : PDI X (bs X CR E W) tg iter it) (ok : blkC X.N X.env.scope scope own = true)
    (hcg : CG X.K CR (own.map (·.2)) g gd) (mono : ∀ v σ H (Q Q' : L2.St → Hp → Prop), (∀ σ H, Q σ H → Q' σ H) → g v σ H Q → g v σ H Q')
    (hg : ∀ (s : Shared) (H : Hp) (C : Addr) (cl : List (Str × Addr)) (fp : List Addr), PG (X.blk s H scope (compEnvC scope cl C X.env) fp) tg g) (ht : ∀ (s : Shared) (H : Hp) (C : Addr) (cl : List (Str × Addr)) (fp : List Addr), PDTs (X.blk s H scope (compEnvC scope cl C X.env) fp) (bs X CR noE noW) ifs tt)
    (he : ∀ (s : Shared) (H : Hp) (C : Addr) (cl : List (Str × Addr)) (fp : List Addr), PD (X.blk s H scope (compEnvC scope cl C X.env) fp) (bs X CR noE noW) elt te) (hs : ∀ x, foldedSetIterable iter X.env x = pure x := by intro _; rfl) :
    PD X (bs X CR E W) (.ListComp elt [⟨tg, iter, ifs, 0⟩] scope pos) (dLc it gd tt te (own.map (·.2))) :=
  (pe_lc hc hN hi (blkOk_by ok) hg ht he hs).imp (lcE hcg mono (F := fun acc M Q => Q (.lst acc) M) fin_lst)
theorem d_lcR {elt tg iter : Expr} {ifs : List Expr} {scope : Scope} {own : List (Str × Nat)} {it : DI} {g : TG} {gd : DG} {tt : DT} {te : DE} (hc : X.calm = true) (hN : X.N.Nodup) (hi : PDI X (bs X CR E W) tg iter it) (ok : blkC X.N X.env.scope scope own = true)
    (hcg : CG X.K CR (own.map (·.2)) g gd) (mono : ∀ v σ H (Q Q' : L2.St → Hp → Prop), (∀ σ H, Q σ H → Q' σ H) → g v σ H Q → g v σ H Q')
    (hg : ∀ (s : Shared) (H : Hp) (C : Addr) (cl : List (Str × Addr)) (fp : List Addr), PG (X.blk s H scope (compEnvC scope cl C X.env) fp) tg g) (ht : ∀ (s : Shared) (H : Hp) (C : Addr) (cl : List (Str × Addr)) (fp : List Addr), PDTs (X.blk s H scope (compEnvC scope cl C X.env) fp) (bs X CR noE noW) ifs tt)
    (he : ∀ (s : Shared) (H : Hp) (C : Addr) (cl : List (Str × Addr)) (fp : List Addr), PD (X.blk s H scope (compEnvC scope cl C X.env) fp) (bs X CR noE noW) elt te) (hs : ∀ x, foldedSetIterable iter X.env x = pure x := by intro _; rfl) :
    PD X (bs X CR E W) (.ListComp elt [⟨tg, iter, ifs, 0⟩] scope pos) (dLcR it gd tt te (own.map (·.2))) :=
  (pe_lc hc hN hi (blkOk_by ok) hg ht he hs).imp (lcE hcg mono (F := fun acc M Q => ∀ p, M p = none → Q (.ref p) (mput M p (.lst acc))) fin_ref)
/-- name = [..] on one line -/
theorem setlcE {w : DE} {t : TE} {i : Nat} (h : ∀ σ H Q, lE (bs X CR E W) w σ H Q → t σ H Q) : ∀ Dn σ H, lS (bs X CR E W) (dSet i w) Dn σ H → tAsg t (gName i) Dn σ H := by
  intro Dn σ H hh
  obtain ⟨P, δ, M, Dd, hS, g, x, w, k⟩ := hh
  exact h σ H _ ⟨P, δ, M, _, hS, g, x, w, fun v H1 ⟨d, M1, z1, g1, r1, q⟩ => k.nx _ H1 ⟨_, M1, z1, g1, (hS.mono z1).set r1, q⟩⟩
theorem s_setLc {i : Nat} {y : Str} {py spos : Pos} {elt tg iter : Expr} {ifs : List Expr} {scope : Scope} {own : List (Str × Nat)} {it : DI} {g : TG} {gd : DG} {tt : DT} {te : DE} (hc : X.calm = true) (hN : X.N.Nodup) (hi : PDI X (bs X CR E W) tg iter it) (ok : blkC X.N X.env.scope scope own = true)
    (hcg : CG X.K CR (own.map (·.2)) g gd) (mono : ∀ v σ H (Q Q' : L2.St → Hp → Prop), (∀ σ H, Q σ H → Q' σ H) → g v σ H Q → g v σ H Q')
    (hg : ∀ (s : Shared) (H : Hp) (C : Addr) (cl : List (Str × Addr)) (fp : List Addr), PG (X.blk s H scope (compEnvC scope cl C X.env) fp) tg g) (ht : ∀ (s : Shared) (H : Hp) (C : Addr) (cl : List (Str × Addr)) (fp : List Addr), PDTs (X.blk s H scope (compEnvC scope cl C X.env) fp) (bs X CR noE noW) ifs tt)
    (he : ∀ (s : Shared) (H : Hp) (C : Addr) (cl : List (Str × Addr)) (fp : List Addr), PD (X.blk s H scope (compEnvC scope cl C X.env) fp) (bs X CR noE noW) elt te) (hsw : swapsWith (.ListComp elt [⟨tg, iter, ifs, 0⟩] scope pos) (some (.Name y py)) spos.line X.env = pure true) (hy : X.N[i]? = some y := by rfl) (hyl : X.env.scope.names.lookup y = some .local := by rfl) (hs : ∀ x, foldedSetIterable iter X.env x = pure x := by intro _; rfl) :
    PDS X (bs X CR E W) (.Assign [.Name y py] (.ListComp elt [⟨tg, iter, ifs, 0⟩] scope pos) spos) (dSet i (dLc it gd tt te (own.map (·.2)))) :=
  (ps_setLc hc hN hy hyl hsw hi (blkOk_by ok) hg ht he hs).imp (setlcE (lcE hcg mono (F := fun acc M Q => Q (.lst acc) M) fin_lst))
theorem s_setLcR {i : Nat} {y : Str} {py spos : Pos} {elt tg iter : Expr} {ifs : List Expr} {scope : Scope} {own : List (Str × Nat)} {it : DI} {g : TG} {gd : DG} {tt : DT} {te : DE} (hc : X.calm = true) (hN : X.N.Nodup) (hi : PDI X (bs X CR E W) tg iter it) (ok : blkC X.N X.env.scope scope own = true)
    (hcg : CG X.K CR (own.map (·.2)) g gd) (mono : ∀ v σ H (Q Q' : L2.St → Hp → Prop), (∀ σ H, Q σ H → Q' σ H) → g v σ H Q → g v σ H Q')
    (hg : ∀ (s : Shared) (H : Hp) (C : Addr) (cl : List (Str × Addr)) (fp : List Addr), PG (X.blk s H scope (compEnvC scope cl C X.env) fp) tg g) (ht : ∀ (s : Shared) (H : Hp) (C : Addr) (cl : List (Str × Addr)) (fp : List Addr), PDTs (X.blk s H scope (compEnvC scope cl C X.env) fp) (bs X CR noE noW) ifs tt)
    (he : ∀ (s : Shared) (H : Hp) (C : Addr) (cl : List (Str × Addr)) (fp : List Addr), PD (X.blk s H scope (compEnvC scope cl C X.env) fp) (bs X CR noE noW) elt te) (hsw : swapsWith (.ListComp elt [⟨tg, iter, ifs, 0⟩] scope pos) (some (.Name y py)) spos.line X.env = pure true) (hy : X.N[i]? = some y := by rfl) (hyl : X.env.scope.names.lookup y = some .local := by rfl) (hs : ∀ x, foldedSetIterable iter X.env x = pure x := by intro _; rfl) :
    PDS X (bs X CR E W) (.Assign [.Name y py] (.ListComp elt [⟨tg, iter, ifs, 0⟩] scope pos) spos) (dSet i (dLcR it gd tt te (own.map (·.2)))) :=
  (ps_setLc hc hN hy hyl hsw hi (blkOk_by ok) hg ht he hs).imp (setlcE (lcE hcg mono (F := fun acc M Q => ∀ p, M p = none → Q (.ref p) (mput M p (.lst acc))) fin_ref))
end
/-! ### operators on data -/
def rI2 (C : Int → Int → Prop) (g : Int → Int → D) : D2 := fun a b M Q => match a, b with
  | .int i, .int j => C i j ∧ Q (g i j) M
  | _, _ => False
section
variable {X : Cx} {CR : Addr}
theorem lf_int {O : Own} {H M} {Q : DK} {i : Int} (g : Good O H M) (q : Q (.int i) M) : LfV O H M Q (.int i) H := LfV.here (d := .int i) g rfl q
theorem lf_bl {O : Own} {H M} {Q : DK} {b : Bool} (g : Good O H M) (q : Q (.bl b) M) : LfV O H M Q (.bl b) H := LfV.here (d := .bl b) g rfl q
theorem lf_str {O : Own} {H M} {Q : DK} {x : Str} (g : Good O H M) (q : Q (.str x) M) : LfV O H M Q (.str x) H := LfV.here (d := .str x) g rfl q
theorem lf_non {O : Own} {H M} {Q : DK} (g : Good O H M) (q : Q .non M) : LfV O H M Q .non H := LfV.here (d := .non) g rfl q
theorem ops_int {f : Value → Value → Sem Value} {C : Int → Int → Prop} {g : Int → Int → Int} (h : OpR X f (rI C fun i j => .int (g i j))) : OpR X f (l2 X.K CR (rI2 C fun i j => .int (g i j))) := h.imp fun x y H Q hh => by
  obtain ⟨P, a, b, M, Qd, ra, rb, gd, r, k⟩ := hh
  cases a with
  | int i => cases b with
    | int j => exact ⟨i, j, ra, rb, r.1, k _ _ (lf_int gd r.2)⟩
    | _ => exact (show False from r).elim
  | _ => exact (show False from r).elim
theorem ops_int0 {f : Value → Value → Sem Value} {g : Int → Int → Int} (h : OpR X f (rI0 fun i j => .int (g i j))) : OpR X f (l2 X.K CR (rI2 (fun _ _ => True) fun i j => .int (g i j))) := h.imp fun x y H Q hh => by
  obtain ⟨P, a, b, M, Qd, ra, rb, gd, r, k⟩ := hh
  cases a with
  | int i => cases b with
    | int j => exact ⟨i, j, ra, rb, k _ _ (lf_int gd r.2)⟩
    | _ => exact (show False from r).elim
  | _ => exact (show False from r).elim
theorem ops_cmp {f : Value → Value → Sem Value} {g : Int → Int → Bool} (h : OpR X f (rI0 fun i j => .bl (g i j))) : OpR X f (l2 X.K CR (rI2 (fun _ _ => True) fun i j => .bl (g i j))) := h.imp fun x y H Q hh => by
  obtain ⟨P, a, b, M, Qd, ra, rb, gd, r, k⟩ := hh
  cases a with
  | int i => cases b with
    | int j => exact ⟨i, j, ra, rb, k _ _ (lf_bl gd r.2)⟩
    | _ => exact (show False from r).elim
  | _ => exact (show False from r).elim
def CFd (_ j : Int) : Prop := j ≠ 0 ∧ j.natAbs.log2 < 9000
def rSubI : D2 := rI2 (fun _ _ => True) fun i j => .int (i - j)
def rMod : D2 := rI2 (fun _ j => j ≠ 0) fun i j => .int (i.fmod j)
def rFdiv : D2 := rI2 CFd fun i j => .int (i.fdiv j)
def rPow : D2 := rI2 CPow fun i j => .int (i ^ j.toNat)
def rMulI : D2 := rI2 IntMulOk fun i j => .int (i * j)
theorem op_mulX : OpR X (binaryOp .Mult) (rI IntMulOk fun i j => .int (i * j)) := opI fun _ _ _ _ _ _ _ hc q => mul_int q hc
def rLt : D2 := rI2 (fun _ _ => True) fun i j => .bl (decide (i < j))
def rLe : D2 := rI2 (fun _ _ => True) fun i j => .bl (decide (i ≤ j))
def rGt : D2 := rI2 (fun _ _ => True) fun i j => .bl (decide (j < i))
def rGe : D2 := rI2 (fun _ _ => True) fun i j => .bl (decide (j ≤ i))
theorem o_subI : OpR X (binaryOp .Sub) (l2 X.K CR rSubI) := ops_int0 op_sub
theorem o_mod : OpR X (binaryOp .Mod) (l2 X.K CR rMod) := ops_int op_modN
theorem o_mulI : OpR X (binaryOp .Mult) (l2 X.K CR rMulI) := ops_int op_mulX
theorem o_pow : OpR X (binaryOp .Pow) (l2 X.K CR rPow) := ops_int op_pow
theorem op_fdX : OpR X (binaryOp .FloorDiv) (rI CFd fun i j => .int (i.fdiv j)) := opI fun _ _ _ _ _ _ _ hc q => floordiv_int hc.1 q (.inl (PyProof.noPylong_of_log2 hc.2))
theorem o_fdiv : OpR X (binaryOp .FloorDiv) (l2 X.K CR rFdiv) := ops_int op_fdX
theorem o_lt : OpR X (compareOp .Lt) (l2 X.K CR rLt) := ops_cmp op_lt
theorem o_le : OpR X (compareOp .LtE) (l2 X.K CR rLe) := ops_cmp op_le
theorem o_gt : OpR X (compareOp .Gt) (l2 X.K CR rGt) := ops_cmp op_gt
theorem o_ge : OpR X (compareOp .GtE) (l2 X.K CR rGe) := ops_cmp op_ge
def rNeg : D1 := fun a M Q => match a with
  | .int i => Q (.int (-i)) M
  | _ => False
theorem o_negI : UnR X (unaryOp .USub) (l1 X.K CR rNeg) := un_neg.imp fun x H Q hh => by
  obtain ⟨P, a, M, Qd, ra, gd, r, k⟩ := hh
  cases a with
  | int i => exact ⟨i, ra, k _ _ (lf_int gd r)⟩
  | _ => exact (show False from r).elim
/-- + of tuples, not empty ones: a new tuple, known to the last -/
def rCatZ (K : PySem.W.Frag) : R2 := fun x y H Q => ∃ a b xs ys, x = .ref a ∧ y = .ref b ∧ SqT K H a xs ∧ SqT K H b ys ∧ xs ≠ [] ∧ xs.length + ys.length ≤ sizeLine ∧ (ys = [] → Q (.ref a) H) ∧ (ys ≠ [] → ∀ p o, H p = none → TupO o → Q (.ref p) (upd H p (.frz o (.tup (xs ++ ys)))))
theorem op_catZ : OpR X (binaryOp .Add) (rCatZ X.K) := by
  intro pins s σ H x y v u Q I rx ry h
  obtain ⟨a, b, xs, ys, rfl, rfl, ha, hb, hx, hz, q1, q2⟩ := h
  cases rx
  cases ry
  obtain ⟨its, r1, p1, _⟩ := I.tuple ha
  obtain ⟨its2, r2, p2, _⟩ := I.tuple hb
  refine HT.cat_tup p1 p2 (fun z => hx (r1.nil_iff.mp z)) (fun z => ⟨.ref a, H, I, rfl, q1 (r2.nil_iff.mp z)⟩) (fun z => ?_) (by rw [← r1.length, ← r2.length]; exact hz)
  refine ⟨.ref s.heap.objs.size, _, I.laid (t' := s.toks) (o := .frz _ (.tup (xs ++ ys))) (fun b ob q => Heap.get?_push_of_some _ q) (Nat.le_refl _) ?_, rfl, q2 (fun w => z (r2.nil_iff.mpr w)) _ _ (I.hok.fresh (Nat.le_refl _)) (show TupO { cls := .type "tuple", data := .seq (its ++ its2).toArray } from rfl)⟩
  refine ⟨?_, by rw [List.length_append]; exact hz, _, r1.append r2, IsTup.new _ _⟩
  first | exact Heap.get?_push_size _ rfl | exact Heap.get?_push_size _ (by simp)
def rAddP : D2 := fun a b M Q => match a, b with
  | .int i, .int j => Q (.int (i + j)) M
  | .str x, .str y => x.length + y.length ≤ sizeLine ∧ Q (.str (x ++ y)) M
  | .lst xs, .lst ys => xs.length + ys.length ≤ sizeLine ∧ Q (.lst (xs ++ ys)) M
  | .tup xs, .tup ys => xs ≠ [] ∧ xs.length + ys.length ≤ sizeLine ∧ Q (.tup (xs ++ ys)) M
  | _, _ => False
theorem reps_nil_iff {O : Own} {H M} {ds : List D} {vs : List V} (h : Reps O H M ds vs) : vs = [] ↔ ds = [] := by
  have e := h.length
  cases ds <;> cases vs <;> simp_all
theorem o_addP : OpR X (binaryOp .Add) (l2 X.K CR rAddP) := (op_add.or (op_add_str.or (op_cat.or op_catZ))).imp fun x y H Q hh => by
  obtain ⟨P, a, b, M, Qd, ra, rb, gd, r, k⟩ := hh
  cases a with
  | int i => cases b with
    | int j => exact .inl ⟨i, j, ra, rb, k _ _ (lf_int gd r)⟩
    | _ => exact (show False from r).elim
  | str i => cases b with
    | str j => exact .inr (.inl ⟨i, j, ra, rb, r.1, k _ _ (lf_str gd r.2)⟩)
    | _ => exact (show False from r).elim
  | lst xs => cases b with
    | lst ys =>
      obtain ⟨p, vs, rfl, f, rs⟩ := ra
      obtain ⟨q, ws, rfl, f2, rs2⟩ := rb
      exact .inr (.inr (.inl ⟨p, q, vs, ws, rfl, rfl, f.2, f2.2, by rw [← rs.length, ← rs2.length]; exact r.1, fun u hu => k _ _ (newL gd hu (rs.append rs2) r.2)⟩))
    | _ => exact (show False from r).elim
  | tup xs => cases b with
    | tup ys =>
      have rb' := rb
      obtain ⟨p, vs, rfl, f, rs⟩ := ra
      obtain ⟨q, ws, rfl, f2, rs2⟩ := rb
      obtain ⟨h1, h2, h3⟩ := (show xs ≠ [] ∧ xs.length + ys.length ≤ sizeLine ∧ Qd (.tup (xs ++ ys)) M from r)
      refine .inr (.inr (.inr ⟨p, q, vs, ws, rfl, rfl, f.sq, f2.sq, fun e => h1 ((reps_nil_iff rs).mp e), by rw [← rs.length, ← rs2.length]; exact h2, fun e => ?_, fun _ u o hu t => k _ _ (newT gd hu t (rs.append rs2) h3)⟩))
      have e2 := (reps_nil_iff rs2).mp e
      subst e2
      rw [List.append_nil] at h3
      exact k _ _ (LfV.here (d := .tup xs) gd ⟨p, vs, rfl, f, rs⟩ h3)
    | _ => exact (show False from r).elim
  | _ => exact (show False from r).elim
/-! ### equality of plain data -/
mutual
/-- None, ints, texts, tuples, lists of such, n deep -/
def plD : D → Nat → Bool
  | .non, _ => true
  | .int _, _ => true
  | .str x, _ => PyData.strOk x
  | .tup xs, n + 1 => plDs xs n
  | .lst xs, n + 1 => plDs xs n
  | _, _ => false
def plDs : List D → Nat → Bool
  | [], _ => true
  | d :: ds, n => plD d n && plDs ds n
end
mutual
def datD : D → PyData
  | .int i => .int i
  | .str x => .str x
  | .tup xs => .tuple (datDs xs)
  | .lst xs => .list (datDs xs)
  | _ => .none
def datDs : List D → List PyData
  | [] => []
  | d :: ds => datD d :: datDs ds
end
mutual
theorem can_of : ∀ {d : D} {n : Nat}, plD d n = true → (datD d).canLay0 = true ∧ (datD d).depth ≤ n
  | .non, n, _ => ⟨by simp [datD, PyData.canLay0], by simp [datD, PyData.depth]⟩
  | .int i, n, _ => ⟨by simp [datD, PyData.canLay0], by simp [datD, PyData.depth]⟩
  | .str x, n, h => ⟨by simpa [datD, PyData.canLay0, plD] using h, by simp [datD, PyData.depth]⟩
  | .tup xs, n + 1, h => by
    have := cans_of (ds := xs) (n := n) h
    exact ⟨by simpa [datD, PyData.canLay0] using this.1, by simpa [datD, PyData.depth] using this.2⟩
  | .lst xs, n + 1, h => by
    have := cans_of (ds := xs) (n := n) h
    exact ⟨by simpa [datD, PyData.canLay0] using this.1, by simpa [datD, PyData.depth] using this.2⟩
theorem cans_of : ∀ {ds : List D} {n : Nat}, plDs ds n = true → PyData.canLayAll0 (datDs ds) = true ∧ PyData.depthAll (datDs ds) ≤ n
  | [], n, _ => ⟨by simp [datDs, PyData.canLayAll0], by simp [datDs, PyData.depthAll]⟩
  | d :: ds, n, h => by
    obtain ⟨h1, h2⟩ := Bool.and_eq_true_iff.mp h
    have a := can_of h1
    have b := cans_of h2
    exact ⟨by simp [datDs, PyData.canLayAll0, a.1, b.1], by simp [datDs, PyData.depthAll]; omega⟩
end
theorem shaped_of {d : D} (h : plD d 8 = true) : SeqAt.shaped (datD d) = true := by
  have := can_of h
  unfold SeqAt.shaped
  rw [this.1, decide_eq_true (by omega)]
  rfl
section
variable {O : Own} {H : Hp} {M : Mem}
mutual
theorem dp_of : ∀ {d : D} {n : Nat} {v : V}, plD d n = true → Rep O H M d v → Dp O.K H v (datD d)
  | .non, _, _, _, r => by rw [show _ = V.non from r]; exact .non
  | .int i, _, _, _, r => by rw [show _ = V.int i from r]; exact .int i
  | .str x, _, _, _, r => by rw [show _ = V.str x from r]; exact .str x
  | .tup xs, n + 1, _, h, r => by
    obtain ⟨a, vs, rfl, f, rs⟩ := r
    exact .tup f.sq (dps_of (n := n) h rs)
  | .lst xs, n + 1, _, h, r => by
    obtain ⟨a, vs, rfl, f, rs⟩ := r
    exact .lst f.sq (dps_of (n := n) h rs)
theorem dps_of : ∀ {ds : List D} {n : Nat} {vs : List V}, plDs ds n = true → Reps O H M ds vs → DpAll O.K H vs (datDs ds)
  | [], _, _, _, r => by rw [show _ = [] from r]; exact .nil
  | d :: ds, n, _, h, r => by
    obtain ⟨v, vs, rfl, r1, r2⟩ := r
    obtain ⟨h1, h2⟩ := Bool.and_eq_true_iff.mp h
    exact .cons (dp_of h1 r1) (dps_of h2 r2)
end
end
mutual
theorem eqv_iff : ∀ {d e : D} {n m : Nat}, plD d n = true → plD e m = true → ((datD d).eqv (datD e) = true ↔ d = e)
  | .non, e, _, m, _, h => by cases e <;> simp_all [datD, PyData.eqv, plD]
  | .int i, e, _, m, _, h => by cases e <;> simp_all [datD, PyData.eqv, plD]
  | .str i, e, _, m, _, h => by cases e <;> simp_all [datD, PyData.eqv, plD]
  | .tup xs, e, n + 1, m, h', h => by
    cases e with
    | tup ys => cases m with
      | zero => cases h
      | succ m =>
        have := eqvs_iff (ds := xs) (es := ys) (n := n) (m := m) h' h
        simpa [datD, PyData.eqv] using this
    | _ => simp_all [datD, PyData.eqv, plD]
  | .lst xs, e, n + 1, m, h', h => by
    cases e with
    | lst ys => cases m with
      | zero => cases h
      | succ m =>
        have := eqvs_iff (ds := xs) (es := ys) (n := n) (m := m) h' h
        simpa [datD, PyData.eqv] using this
    | _ => simp_all [datD, PyData.eqv, plD]
theorem eqvs_iff : ∀ {ds es : List D} {n m : Nat}, plDs ds n = true → plDs es m = true → (PyData.eqvAll (datDs ds) (datDs es) = true ↔ ds = es)
  | [], [], _, _, _, _ => by simp [datDs, PyData.eqvAll]
  | [], _ :: _, _, _, _, _ => by simp [datDs, PyData.eqvAll]
  | _ :: _, [], _, _, _, _ => by simp [datDs, PyData.eqvAll]
  | d :: ds, e :: es, n, m, h, h' => by
    obtain ⟨h1, h2⟩ := Bool.and_eq_true_iff.mp h
    obtain ⟨h3, h4⟩ := Bool.and_eq_true_iff.mp h'
    have a := eqv_iff h1 h3
    have b := eqvs_iff h2 h4
    simp [datDs, PyData.eqvAll, a, b]
end
section
variable {X : Cx} {CR : Addr}
/-- == : plain data; two truth values -/
def rEqP : D2 := fun a b M Q => (plD a 8 = true ∧ plD b 8 = true ∧ ∀ k : Bool, (k = true ↔ a = b) → Q (.bl k) M) ∨ ∃ x y, a = .bl x ∧ b = .bl y ∧ Q (.bl (x == y)) M
def rNeP : D2 := fun a b M Q => (plD a 8 = true ∧ plD b 8 = true ∧ ∀ k : Bool, (k = true ↔ a ≠ b) → Q (.bl k) M) ∨ ∃ x y, a = .bl x ∧ b = .bl y ∧ Q (.bl (x != y)) M
theorem o_eqP (hu : X.A.units + 64 < cLine) : OpR X (compareOp .Eq) (l2 X.K CR rEqP) := ((op_eqD hu).or op_eq).imp fun x y H Q hh => by
  obtain ⟨P, a, b, M, Qd, ra, rb, gd, r, k⟩ := hh
  rcases r with ⟨p1, p2, q⟩ | ⟨b1, b2, rfl, rfl, q⟩
  · exact .inl ⟨_, _, dp_of p1 ra, dp_of p2 rb, shaped_of p1, shaped_of p2, k _ _ (lf_bl gd (q _ (eqv_iff p1 p2)))⟩
  · rw [show x = .bl b1 from ra, show y = .bl b2 from rb]
    refine .inr ⟨rfl, ?_⟩
    rw [dec_bl]
    exact k _ _ (lf_bl gd q)
theorem o_neP (hu : X.A.units + 64 < cLine) : OpR X (compareOp .NotEq) (l2 X.K CR rNeP) := ((op_neD hu).or op_ne).imp fun x y H Q hh => by
  obtain ⟨P, a, b, M, Qd, ra, rb, gd, r, k⟩ := hh
  rcases r with ⟨p1, p2, q⟩ | ⟨b1, b2, rfl, rfl, q⟩
  · refine .inl ⟨_, _, dp_of p1 ra, dp_of p2 rb, shaped_of p1, shaped_of p2, k _ _ (lf_bl gd (q _ ?_))⟩
    have := eqv_iff p1 p2
    rw [Bool.not_eq_true', ← Bool.not_eq_true, this]
  · rw [show x = .bl b1 from ra, show y = .bl b2 from rb]
    refine .inr ⟨rfl, ?_⟩
    rw [dec_bl]
    exact k _ _ (lf_bl gd q)
/-! ### is None -/
def isNonD : D → Bool
  | .non => true
  | _ => false
theorem isNon_of {O : Own} {H M} {d : D} {v : V} (r : Rep O H M d v) : decide (v = .non) = isNonD d := by
  cases d with
  | non => rw [show v = .non from r]; rfl
  | bl b => rw [show v = .bl b from r]; rfl
  | int b => rw [show v = .int b from r]; rfl
  | str b => rw [show v = .str b from r]; rfl
  | ref b => rw [show v = .ref b from r]; rfl
  | ty b => rw [show v = .ty b from r]; rfl
  | rat q => obtain ⟨a, _, rfl, _⟩ := r; rfl
  | tup q => obtain ⟨a, _, rfl, _⟩ := r; rfl
  | prs q => obtain ⟨a, _, rfl, _⟩ := r; rfl
  | lst q => obtain ⟨a, _, rfl, _⟩ := r; rfl
  | scr q => obtain ⟨a, _, rfl, _⟩ := r; rfl
  | obj C ns q => obtain ⟨a, _, _, rfl, _⟩ := r; rfl
def rIsN : D2 := fun a b M Q => b = .non ∧ Q (.bl (isNonD a)) M
def rNotN : D2 := fun a b M Q => b = .non ∧ Q (.bl (!isNonD a)) M
theorem o_isN : OpR X (compareOp .Is) (l2 X.K CR rIsN) := op_isN.imp fun x y H Q hh => by
  obtain ⟨P, a, b, M, Qd, ra, rb, gd, ⟨rfl, r⟩, k⟩ := hh
  refine ⟨rb, ?_⟩
  rw [isNon_of ra]
  exact k _ _ (lf_bl gd r)
theorem o_notN : OpR X (compareOp .IsNot) (l2 X.K CR rNotN) := op_notN.imp fun x y H Q hh => by
  obtain ⟨P, a, b, M, Qd, ra, rb, gd, ⟨rfl, r⟩, k⟩ := hh
  refine ⟨rb, ?_⟩
  rw [isNon_of ra]
  exact k _ _ (lf_bl gd r)
/-! ### in -/
/-- one sign in a text -/
def rInS (neg : Bool) : D2 := fun a b M Q => ∃ (c : Nat) (z : Str), a = .str ⟨#[c]⟩ ∧ b = .str z ∧ Q (.bl (if neg then !decide (c ∈ z.cps.toList) else decide (c ∈ z.cps.toList))) M
theorem o_inS : OpR X (compareOp .In) (l2 X.K CR (rInS false)) := op_in_sign.imp fun x y H Q hh => by
  obtain ⟨P, a, b, M, Qd, ra, rb, gd, ⟨c, z, rfl, rfl, q⟩, k⟩ := hh
  exact ⟨c, z, ra, rb, k _ _ (lf_bl gd q)⟩
theorem o_notInS : OpR X (compareOp .NotIn) (l2 X.K CR (rInS true)) := op_notIn_sign.imp fun x y H Q hh => by
  obtain ⟨P, a, b, M, Qd, ra, rb, gd, ⟨c, z, rfl, rfl, q⟩, k⟩ := hh
  exact ⟨c, z, ra, rb, k _ _ (lf_bl gd q)⟩
/-! ### places -/
/-- x[i] -/
def rIxD : D2 := fun a b M Q => ∃ i, b = .int i ∧ match a with
  | .tup xs => ∃ d, atI xs i = some d ∧ Q d M
  | .lst xs => ∃ d, atI xs i = some d ∧ Q d M
  | .scr xs => ∃ d, atI xs i = some d ∧ Q d M
  | .ref p => ∃ xs d, M p = some (.lst xs) ∧ atI xs i = some d ∧ Q d M
  | .str z => z.length ≤ sizeLine ∧ ∃ c, atI z.cps.toList i = some c ∧ Q (.str ⟨#[c]⟩) M
  | _ => False
theorem Reps.atI {O : Own} {H M} {ds : List D} {vs : List V} {i : Int} {d : D} (h : Reps O H M ds vs) (e : L2.atI ds i = some d) : ∃ v, L2.atI vs i = some v ∧ Rep O H M d v := by
  unfold L2.atI at e ⊢
  rw [← h.length]
  cases q : ixN ds.length i with
  | none => rw [q] at e; cases e
  | some j =>
    rw [q] at e
    exact h.get (i := j) e
theorem _root_.L2.IxR.imp {X : Cx} {r r' : R2} (h : IxR X r) (i : ∀ x y H Q, r' x y H Q → r x y H Q) : IxR X r' := by
  intro a1 a2 a3 a4 a5 a6 a7 a8 a9 a10 a11 a12 a13 a14 q
  exact h a1 a2 a3 a4 a5 a6 a7 a8 a9 a10 a11 a12 a13 a14 (i _ _ _ _ q)
theorem x_ix : IxR X (l2 X.K CR rIxD) := ix_seq.imp fun x y H Q hh => (by
  obtain ⟨P, a, b, M, Qd, ra, rb, gd, ⟨i, rfl, r⟩, k⟩ := hh
  cases a with
  | tup xs =>
    obtain ⟨p, vs, rfl, f, rs⟩ := ra
    obtain ⟨d, e, q⟩ := r
    obtain ⟨v, e1, r1⟩ := rs.atI e
    exact .inr (.inl ⟨p, vs, i, v, rfl, rb, f.sq, e1, k _ _ (LfV.here gd r1 q)⟩)
  | lst xs =>
    obtain ⟨p, vs, rfl, f, rs⟩ := ra
    obtain ⟨d, e, q⟩ := r
    obtain ⟨v, e1, r1⟩ := rs.atI e
    exact .inl ⟨p, vs, i, v, rfl, rb, f.sq, e1, k _ _ (LfV.here gd r1 q)⟩
  | scr xs =>
    obtain ⟨p, vs, rfl, f, rs⟩ := ra
    obtain ⟨d, e, q⟩ := r
    obtain ⟨v, e1, r1⟩ := rs.atI e
    exact .inl ⟨p, vs, i, v, rfl, rb, f.sq, e1, k _ _ (LfV.here gd r1 q)⟩
  | ref p =>
    obtain ⟨xs, d, em, e, q⟩ := r
    obtain ⟨vs, eh, rs⟩ := gd.at_ p _ em
    obtain ⟨v, e1, r1⟩ := rs.atI e
    exact .inl ⟨p, vs, i, v, ra, rb, .of eh, e1, k _ _ (LfV.here gd r1 q)⟩
  | str z =>
    obtain ⟨hz, c, e, q⟩ := r
    exact .inr (.inr ⟨z, i, c, ra, rb, hz, e, k _ _ (lf_str gd q)⟩)
  | _ => exact (show False from r).elim)
variable {E : DXS} {W : WX} {a b : Expr} {wa wb : DE} {pos : Pos}
theorem d_ix (ha : PD X (bs X CR E W) a wa) (hb : PD X (bs X CR E W) b wb) (hs : PlainIx b := by exact fun _ _ => rfl) : PD X (bs X CR E W) (.Subscript a b pos) (dOp rIxD wa wb) := (pe_ix x_ix ha hb hs).imp op_ok
/-! ### len, int, abs -/
def lenD (d : D) (M : Mem) (n : Nat) : Prop := match d with
  | .tup xs => n = xs.length
  | .lst xs => n = xs.length
  | .scr xs => n = xs.length
  | .str z => z.length ≤ sizeLine ∧ n = z.length
  | .ref p => ∃ xs, M p = some (.lst xs) ∧ n = xs.length
  | _ => False
def rLen : DC := fun ds M Q => ∃ d n, ds = [d] ∧ lenD d M n ∧ Q (.int (n : Int)) M
theorem c_len : CallR X (.builtin "len") (lC X.K CR rLen) := call_len.imp fun xs H Q hh => by
  obtain ⟨P, ds, M, Qd, rs, gd, ⟨d, n, rfl, l, q⟩, k⟩ := hh
  obtain ⟨v, r, rfl, r1, r2⟩ := rs
  rw [show r = [] from r2]
  refine ⟨v, n, rfl, ?_, k _ _ (lf_int gd q)⟩
  cases d with
  | tup xs => obtain ⟨p, vs, rfl, f, rs⟩ := r1; exact .inr ⟨vs, f.sq, by rw [← rs.length]; exact l⟩
  | lst xs => obtain ⟨p, vs, rfl, f, rs⟩ := r1; exact .inl ⟨vs, f.sq, by rw [← rs.length]; exact l⟩
  | scr xs => obtain ⟨p, vs, rfl, f, rs⟩ := r1; exact .inl ⟨vs, f.sq, by rw [← rs.length]; exact l⟩
  | str z => rw [show v = .str z from r1]; exact l
  | ref p =>
    obtain ⟨xs, e, l⟩ := l
    obtain ⟨vs, eh, rs⟩ := gd.at_ p _ e
    rw [show v = .ref p from r1]
    exact .inl ⟨vs, .of eh, by rw [← rs.length]; exact l⟩
  | _ => exact (show False from l).elim
def rInt : DC := fun ds M Q => (∃ i, ds = [.int i] ∧ Q (.int i) M) ∨ ∃ b, ds = [.bl b] ∧ Q (.int (if b then 1 else 0)) M
theorem c_int : CallR X (.type "int") (lC X.K CR rInt) := call_int1.imp fun xs H Q hh => by
  obtain ⟨P, ds, M, Qd, rs, gd, r, k⟩ := hh
  rcases r with ⟨i, rfl, q⟩ | ⟨i, rfl, q⟩
  · obtain ⟨v, r, rfl, r1, r2⟩ := rs
    rw [show r = [] from r2, show v = _ from r1]
    exact .inl ⟨i, rfl, k _ _ (lf_int gd q)⟩
  · obtain ⟨v, r, rfl, r1, r2⟩ := rs
    rw [show r = [] from r2, show v = _ from r1]
    exact .inr ⟨i, rfl, k _ _ (lf_int gd q)⟩
def rAbsI : DC := fun ds M Q => ∃ i, ds = [.int i] ∧ Q (.int (if i < 0 then -i else i)) M
theorem c_absI : CallR X (.builtin "abs") (lC X.K CR rAbsI) := call_abs.imp fun xs H Q hh => by
  obtain ⟨P, ds, M, Qd, rs, gd, ⟨i, rfl, q⟩, k⟩ := hh
  obtain ⟨v, r, rfl, r1, r2⟩ := rs
  rw [show r = [] from r2, show v = _ from r1]
  exact ⟨i, rfl, k _ _ (lf_int gd q)⟩
/-! ### list.append of a list of the memory -/
def dBM0 (r : D → List D → Mem → DK → Prop) (w : DE) (t : DA) : DE := fun δ M Q => w δ M fun o M1 => t δ M1 fun ds M2 => r o ds M2 Q
def rApp : D → List D → Mem → DK → Prop := fun o ds M Q => ∃ p xs y, o = .ref p ∧ ds = [y] ∧ M p = some (.lst xs) ∧ xs.length < sizeLine ∧ Q .non (mput M p (.lst (xs ++ [y])))
/-- what the receiver is, ahead of the arguments -/
def isLstD (o : D) (M : Mem) : Prop := ∃ p xs, o = .ref p ∧ M p = some (.lst xs)
def dApp (w : DE) (t : DA) : DE := fun δ M Q => w δ M fun o M1 => isLstD o M1 ∧ t δ M1 fun ds M2 => rApp o ds M2 Q
theorem d_app {e : Expr} {w : DE} {t : DA} (h : PE X e (tBM X.K "list" rAppend (lE (bs X CR E W) w) (lA (bs X CR E W) t))) : PD X (bs X CR E W) e (dApp w t) := by
  refine h.imp fun σ H Q h => ?_
  obtain ⟨P, δ, M, Qd, hS, g, x, w, k⟩ := h
  refine ⟨P, δ, M, _, hS, g, x, w, fun v H1 ⟨d, M1, z1, g1, r1, ⟨p, xs, ed, em⟩, q⟩ => ?_⟩
  subst ed
  obtain ⟨vs, eh, rs⟩ := g1.at_ p _ em
  rw [show v = .ref p from r1]
  refine ⟨.inl ⟨rfl, vs, .of eh⟩, P, δ, M1, _, hS.mono z1, g1, x.trans z1, q, fun us H2 ds M2 z2 g2 rs2 q2 => ?_⟩
  obtain ⟨p', xs', y, ep, rfl, em', hz, q3⟩ := q2
  cases ep
  obtain ⟨vs', eh', rs'⟩ := g2.at_ p _ em'
  obtain ⟨u, r, rfl, r1', r2⟩ := rs2
  have z3 : Fz ⟨X.K, CR, P⟩ H2 M2 (upd H2 p (.lst (vs' ++ [u]))) (mput M2 p (.lst (xs' ++ [y]))) := fz_put g2 em'
  refine ⟨p, vs', u, rfl, by rw [show r = [] from r2], eh', by rw [← rs'.length]; exact hz, ?_⟩
  exact k _ _ ⟨.non, _, (z1.trans z2).trans z3, good_put g2 (g2.noP em') z3 (show RepO _ _ _ p (.lst _) from ⟨_, upd_same, (rs'.append (Reps.one r1')).mono z3⟩), rfl, q3⟩
end
end
/-! ### promises over data -/
abbrev DSp := List D → Mem → DK → DX → Prop
abbrev noX : DX := fun _ _ _ _ => False
def lSp (K : PySem.W.Frag) (CR : Addr) (sp : DSp) : Sp := fun vs H Q E => ∃ P ds M Qd Ed, Reps ⟨K, CR, P⟩ H M ds vs ∧ Good ⟨K, CR, P⟩ H M ∧ sp ds M Qd Ed ∧ (∀ v H', LfV ⟨K, CR, P⟩ H M Qd v H' → Q v H') ∧ ∀ c d H', LfX ⟨K, CR, P⟩ H M Ed c d H' → E c d H'
theorem LfX.no {O : Own} {H M c d H'} (h : LfX O H M noX c d H') : False := let ⟨_, _, _, _, _, _, _, _, q⟩ := h; q
theorem LfX.trans {O : Own} {H M H1 M1 E c d H'} (z : Fz O H M H1 M1) (h : LfX O H1 M1 E c d H') : LfX O H M E c d H' := let ⟨C, ns, fs, M', e, z', r⟩ := h; ⟨C, ns, fs, M', e, z.trans z', r⟩
/-- a call that raises nothing -/
def dCall (sp : DSp) (t : DA) : DE := fun δ M Q => t δ M fun ds M1 => sp ds M1 Q noX
/-- with defaults behind -/
def dCallD (sp : DSp) (dd : List D) (t : DA) : DE := fun δ M Q => t δ M fun ds M1 => sp (ds ++ dd) M1 Q noX
/-- a call that may raise what Ed wishes -/
def dCallX (sp : DSp) (Ed : DXS) (t : DA) : DE := fun δ M Q => t δ M fun ds M1 => sp ds M1 Q fun C ns fs M' => Ed C ns fs δ M'
/-- a def of the text keeps its promise -/
structure Def (P : Program) (w : World) (K : PySem.W.Frag) (mg : Str → Option Value) (base : Heap) (CR : Addr) (k : Nat) (x : Str) (ps : List Str) (sp : DSp) : Prop where
  ex : ∃ f fd, FnOk P w K mg base (L2.CX P w) k f fd ps (lSp K CR sp) ∧ mg x = some (.ref f) ∧ PySem.W.keepIn K (.ref f) = true ∧ Binds K fd ps []
section
variable {X : Cx} {CR : Addr} {E : DXS} {W : WX} {pos : Pos} {k : Nat} {x : Str} {ps : List Str} {sp : DSp} {e : Expr} {es : List Expr} {t : DA} {p : Pos}
theorem d_call (F : Def X.prog X.w X.K X.mg X.base CR k x ps sp) (hr : Room k X.A) (ha : PDA X (bs X CR E W) (e :: es) t) (hg : Gl X x := by rfl)
    (hdb : (x == ("__debug__" : Str)) = false := by decide) (he : starEach (e :: es) X.env = (false, eval e X.env) :: starEach es X.env := by rfl) (hpl : (backTo pos (starEach es X.env)).any (·.1) = false := by rfl) : PD X (bs X CR E W) (.Call (.Name x p) (e :: es) [] pos) (dCall sp t) := by
  obtain ⟨f, fd, F, hm, hk, hb⟩ := F.ex
  refine (pe_call F hr hg hm hk hb .nil passL ha hdb he hpl).imp fun σ H Q h => ?_
  obtain ⟨P, δ, M, Qd, hS, g, x, w, k⟩ := h
  refine ⟨P, δ, M, _, hS, g, x, w, fun vs H1 ds M1 z1 g1 rs q => ?_⟩
  show lSp X.K CR sp (vs ++ []) H1 Q E0
  rw [List.append_nil]
  exact ⟨P, ds, M1, Qd, noX, rs, g1, q, fun v H' l => k v H' (l.trans z1), fun c d H' l => l.no⟩
theorem d_call0 (F : Def X.prog X.w X.K X.mg X.base CR k x ps sp) (hr : Room k X.A) (hg : Gl X x := by rfl) (hdb : (x == ("__debug__" : Str)) = false := by decide) : PD X (bs X CR E W) (.Call (.Name x p) [] [] pos) (dCall sp dNil) := by
  obtain ⟨f, fd, F, hm, hk, hb⟩ := F.ex
  refine (pe_call0 F hr hg hm hk hb .nil passL hdb).imp fun σ H Q h => ?_
  obtain ⟨P, δ, M, Qd, hS, g, x, w, k⟩ := h
  exact ⟨P, [], M, Qd, noX, rfl, g, w, k, fun c d H' l => l.no⟩
end
/-- the names' values at the entry -/
def startD (n : Nat) (ds : List D) : DS0 := ds.map some ++ List.replicate (n - ds.length) none
theorem reps_start {O : Own} {H M} {ds : List D} {vs : List V} {N : List Str} (r : Reps O H M ds vs) : RepS O H M (startD N.length ds) (L2.start N vs) := by
  refine ⟨by unfold startD L2.start; simp [r.length], fun i d e => ?_⟩
  unfold startD at e
  by_cases hi : i < ds.length
  · rw [List.getElem?_append_left (by simpa using hi), List.getElem?_map] at e
    cases q : ds[i]? with
    | none => rw [q] at e; cases e
    | some d' =>
      rw [q] at e
      cases e
      obtain ⟨v, ev, rv⟩ := r.get q
      refine ⟨v, ?_, rv⟩
      unfold L2.start
      rw [List.getElem?_append_left (by rw [List.length_map, ← r.length]; exact hi), List.getElem?_map, ev] <;> rfl
  · rw [List.getElem?_append_right (by simpa using hi), List.getElem?_replicate] at e
    split at e <;> cases e
section
variable {P : Program} {w : World} {K : PySem.W.Frag} {mg : Str → Option Value} {base : Heap} {CR : Addr}
/-- THE RULE for a def from which nothing is raised: its derivation, its reading -/
theorem okD {x qual : Str} {st : Stmt} {f : Addr} {fd : FuncData} {N ps : List Str} {k : Nat} {sp : DSp} {wd : DSt} {dvs : List V} {kws : List (Str × V)} (F : FunD K x qual (defArgs st) (defBody st) (defScope st) dvs kws f fd) (S : FnScope N ps (defScope st))
    (der : ∀ (cdv : Value) (A : Around) (outer : List Env) (s : Shared) (H : Hp) (E : XK), Room k (A.deeper (envOfC qual (defScope st) s.heap.objs.size f cdv)) →
      PDSs (cxOf (L2.CX P w) P w K mg base N qual (defScope st) f cdv A outer s H E).nox ⟨K, CR, noE, noW⟩ (defBody st) wd)
    (len : ∀ ds M Q E, sp ds M Q E → ds.length = ps.length)
    (rd : ∀ ds M Q E, sp ds M Q E → wd { nx := fun _ M' => Q .non M', rt := Q } (startD N.length ds) M) : FnOk P w K mg base (L2.CX P w) (k + 1) f fd ps (lSp K CR sp) := by
  refine F.ok S (fun vs H Q E h => ?_) (fun cdv A outer s H vs Q E hr h => ⟨lS ⟨K, CR, noE, noW⟩ wd, (der cdv A outer s H E hr).nox, ?_⟩)
  · obtain ⟨P, ds, M, Qd, Ed, r, g, h, _⟩ := h
    rw [← r.length]
    exact len _ _ _ _ h
  · obtain ⟨P, ds, M, Qd, Ed, r, g, h, k1, k2⟩ := h
    exact ⟨P, _, M, _, reps_start r, g, XL.no, rd ds M Qd Ed h, ⟨fun σ H' ⟨δ', M', z, g', _, q⟩ => k1 .non H' ⟨.non, M', z, g', rfl, q⟩, k1, fun _ _ ⟨_, _, _, _, _, q⟩ => q.elim, fun _ _ ⟨_, _, _, _, _, q⟩ => q.elim⟩⟩
theorem def_mk {x qual : Str} {st : Stmt} {fd : FuncData} {ps : List Str} {k : Nat} {sp : DSp} {f : Addr} (F : FunD K x qual (defArgs st) (defBody st) (defScope st) [] [] f fd) (hm : mg x = some (.ref f)) (ok : FnOk P w K mg base (L2.CX P w) k f fd ps (lSp K CR sp))
    (h : ∀ (kV doc pm : Value) (an : Option Addr) (cdv ct : Value) (us : List Value), us.length = ps.length → bindArgs (PySem.W.fnOf x qual (defArgs st) (defBody st) (defScope st) .none kV doc pm an cdv ct) ⟨us, []⟩ = pure (ps.zip us)) : Def P w K mg base CR k x ps sp :=
  ⟨f, fd, ok, hm, F.kp, F.bindsN h⟩
end
section
variable {X : Cx} {CR : Addr} {E : DXS} {W : WX} {pos : Pos}
/-- a built-in type as a value -/
theorem d_ty {x : Str} {n : String} (hm : X.mg x = none) (hv : bootBuiltins x = some (.type n) := by decide +kernel) (hg : Gl X x := by rfl) (hn : x ≠ "__name__" := by decide) (hd : (x == ("__debug__" : Str)) = false := by decide) : PD X (bs X CR E W) (.Name x pos) (dC (.ty n)) :=
  pd_c (pe_bltn (v := .ty n) hg hm hv rfl hn hd) fun _ _ _ => rfl
def tyD : D → Mem → Option String
  | .non, _ => some "NoneType"
  | .bl _, _ => some "bool"
  | .int _, _ => some "int"
  | .str _, _ => some "str"
  | .tup _, _ => some "tuple"
  | .lst _, _ => some "list"
  | .ref p, M => match M p with
    | some (.lst _) => some "list"
    | _ => none
  | _, _ => none
theorem tyD_ok {O : Own} {H M} {d : D} {v : V} {n : String} (g : Good O H M) (r : Rep O H M d v) (h : tyD d M = some n) : TyX O.K H v (.type n) := by
  cases d with
  | non => cases h; rw [show v = .non from r]; exact .base .non
  | bl b => cases h; rw [show v = .bl b from r]; exact .base (.bl b)
  | int b => cases h; rw [show v = .int b from r]; exact .base (.int b)
  | str b => cases h; rw [show v = .str b from r]; exact .base (.str b)
  | tup xs => cases h; obtain ⟨a, vs, rfl, ⟨_, o, _, e⟩, _⟩ := r; exact .fTuple e
  | prs xs => cases h
  | lst xs => cases h; obtain ⟨a, vs, rfl, f, _⟩ := r; exact .base (.lst f.2)
  | ref p =>
    rw [show v = .ref p from r]
    cases e : M p with
    | none => simp [tyD, e] at h
    | some o =>
      cases o with
      | lst xs =>
        simp [tyD, e] at h
        subst h
        obtain ⟨vs, eh, _⟩ := g.at_ p _ e
        exact .base (.lst eh)
      | ins _ _ _ => simp [tyD, e] at h
      | dic _ _ => simp [tyD, e] at h
  | rat q => cases h
  | scr q => cases h
  | ty q => cases h
  | obj _ _ _ => cases h
/-- isinstance(x, T), T built-in -/
def rIsi : DC := fun ds M Q => ∃ x T a r, ds = [x, .ty T] ∧ tyD x M = some a ∧ kitB a T = some r ∧ Q (.bl r) M
theorem c_isi : CallR X (.builtin "isinstance") (lC X.K CR rIsi) := call_isi.imp fun xs H Q hh => by
  obtain ⟨P, ds, M, Qd, rs, gd, ⟨x, T, a, r, rfl, h1, h2, q⟩, k⟩ := hh
  obtain ⟨v, r1, rfl, r2, v2, r3, rfl, r4, r5⟩ := rs
  rw [show r3 = [] from r5, show v2 = .ty T from r4]
  exact ⟨v, .ty T, .type a, .type T, r, rfl, .ty T, tyD_ok gd r2 h1, kit_ty h2, k _ _ (lf_bl gd q)⟩
/-! ### tuple(), list() -/
def rTupOf : DC := fun ds M Q => (∃ xs, ds = [.lst xs] ∧ Q (.tup xs) M) ∨ (∃ xs, ds = [.tup xs] ∧ Q (.tup xs) M) ∨ ∃ p xs, ds = [.ref p] ∧ M p = some (.lst xs) ∧ Q (.tup xs) M
/-- tuple(list): a new tuple, known to the last; tuple(tuple): the same -/
theorem call_tupleZ : CallR X (.type "tuple") (fun xs H Q => ∃ p ys, xs = [.ref p] ∧ ((SqL X.K H p ys ∧ ∀ l o, H l = none → TupO o → Q (.ref l) (upd H l (.frz o (.tup ys)))) ∨ (SqT X.K H p ys ∧ Q (.ref p) H))) := by
  intro pins s σ H xs us Q I r h
  obtain ⟨p, ys, rfl, h⟩ := h
  obtain ⟨u, rfl, rx⟩ := vals1 r
  cases rx
  rcases h with ⟨hq, q⟩ | ⟨hq, q⟩
  · obtain ⟨its, r', pl, hz⟩ := I.list hq
    have hlen := r'.length
    refine call_tuple_list pl.isList (fun h' kp => ?_) (by simp only [List.size_toArray] <;> omega)
    have I1 : Inv X pins σ H { s with heap := h' } := I.kept (t' := s.toks) kp
    have I2 : Inv X pins σ (upd H h'.objs.size (.frz { cls := .type "tuple", data := .seq its.toArray } (.tup ys))) { s with heap := h'.push { cls := .type "tuple", data := .seq its.toArray } } :=
      I1.laid (t' := s.toks) (fun b o e => Heap.get?_push_of_some _ e) (Nat.le_refl _) (show ObjOk X.prog X.w _ _ _ (.frz _ (.tup ys)) from ⟨Heap.get?_push_size _ rfl, hz, its, r', IsTup.new _ _⟩)
    exact ⟨.ref h'.objs.size, _, I2, rfl, q _ _ (I1.hok.fresh (Nat.le_refl _)) rfl⟩
  · obtain ⟨its, r', pl, hz⟩ := I.tuple hq
    exact call_tuple_same pl ⟨.ref p, H, I, rfl, q⟩
theorem c_tuple : CallR X (.type "tuple") (lC X.K CR rTupOf) := call_tupleZ.imp fun xs H Q hh => by
  obtain ⟨P, ds, M, Qd, rs, gd, r, k⟩ := hh
  rcases r with ⟨xs, rfl, q⟩ | ⟨xs, rfl, q⟩ | ⟨p, xs, rfl, e, q⟩
  · obtain ⟨v, r1, rfl, ⟨a, vs, rfl, f, rs⟩, r5⟩ := rs
    rw [show r1 = [] from r5]
    exact ⟨a, vs, rfl, .inl ⟨f.sq, fun l o hl t => k _ _ (newT gd hl t rs q)⟩⟩
  · obtain ⟨v, r1, rfl, ⟨a, vs, rfl, f, rs⟩, r5⟩ := rs
    rw [show r1 = [] from r5]
    exact ⟨a, vs, rfl, .inr ⟨f.sq, k _ _ (LfV.here (d := .tup xs) gd ⟨a, vs, rfl, f, rs⟩ q)⟩⟩
  · obtain ⟨v, r1, rfl, r2, r5⟩ := rs
    obtain ⟨vs, eh, rs⟩ := gd.at_ p _ e
    rw [show r1 = [] from r5, show v = .ref p from r2]
    exact ⟨p, vs, rfl, .inl ⟨.of eh, fun l o hl t => k _ _ (newT gd hl t rs q)⟩⟩
def rLstOfG (ref : Bool) : DC := fun ds M Q => ∃ xs, (ds = [.lst xs] ∨ ds = [.tup xs] ∨ ∃ p, ds = [.ref p] ∧ M p = some (.lst xs)) ∧ if ref then (∀ p, M p = none → Q (.ref p) (mput M p (.lst xs))) else Q (.lst xs) M
abbrev rLstOf : DC := rLstOfG false
abbrev rLstOfR : DC := rLstOfG true
theorem lst_new {O : Own} {H M} {Q : DK} {ref : Bool} {xs : List D} {vs : List V} {l : Addr} (g : Good O H M) (hl : H l = none) (rs : Reps O H M xs vs) (q : if ref then (∀ p, M p = none → Q (.ref p) (mput M p (.lst xs))) else Q (.lst xs) M) : LfV O H M Q (.ref l) (upd H l (.lst vs)) := by
  cases ref with
  | true => exact newR g hl rs (q l (g.none hl).1)
  | false => exact newL g hl rs q
theorem c_listG {ref : Bool} : CallR X (.type "list") (lC X.K CR (rLstOfG ref)) := call_list_of.imp fun xs H Q hh => by
  obtain ⟨P, ds, M, Qd, rs, gd, ⟨xs, r, q⟩, k⟩ := hh
  rcases r with rfl | rfl | ⟨p, rfl, e⟩
  · obtain ⟨v, r1, rfl, ⟨a, vs, rfl, f, rs⟩, r5⟩ := rs
    rw [show r1 = [] from r5]
    exact ⟨a, vs, rfl, .inl f.sq, fun l hl => k _ _ (lst_new gd hl rs q)⟩
  · obtain ⟨v, r1, rfl, ⟨a, vs, rfl, f, rs⟩, r5⟩ := rs
    rw [show r1 = [] from r5]
    exact ⟨a, vs, rfl, .inr f.sq, fun l hl => k _ _ (lst_new gd hl rs q)⟩
  · obtain ⟨v, r1, rfl, r2, r5⟩ := rs
    obtain ⟨vs, eh, rs⟩ := gd.at_ p _ e
    rw [show r1 = [] from r5, show v = .ref p from r2]
    exact ⟨p, vs, rfl, .inl (.of eh), fun l hl => k _ _ (lst_new gd hl rs q)⟩
theorem c_list : CallR X (.type "list") (lC X.K CR rLstOf) := c_listG
theorem c_listR : CallR X (.type "list") (lC X.K CR rLstOfR) := c_listG
end
/-! ### little facts for readings -/
theorem ite_t {A B : Prop} (h : A) : if true = true then A else B := by rw [if_pos rfl]; exact h
theorem ite_f {A B : Prop} (h : B) : if false = true then A else B := by rw [if_neg Bool.false_ne_true]; exact h
theorem ite_d {c : Prop} [Decidable c] {A B : Prop} (h1 : c → A) (h2 : ¬ c → B) : if decide c = true then A else B := by
  by_cases h : c
  · rw [if_pos (decide_eq_true h)]; exact h1 h
  · rw [if_neg (by rw [decide_eq_false h]; exact Bool.false_ne_true)]; exact h2 h
theorem ite_b {b : Bool} {A B : Prop} (h1 : b = true → A) (h2 : b = false → B) : if b = true then A else B := by
  cases b with
  | true => exact ite_t (h1 rfl)
  | false => exact ite_f (h2 rfl)
/-! ### loops and comprehensions, by a word -/
theorem dLoop_ind {chk : Mem → Prop} {g : DG} {body : DSt} {De : DEnds} (I : List D → DS0 → Mem → Prop)
    (step : ∀ x xs δ M (K : DS0 → Mem → Prop), (∀ δ M, I xs δ M → K δ M) → I (x :: xs) δ M → chk M ∧ g x δ M fun δ1 M1 => body { De with nx := K, ct := K, bk := De.nx } δ1 M1)
    (fin : ∀ δ M, I [] δ M → chk M ∧ De.nx δ M) : ∀ xs δ M, I xs δ M → dLoop chk g body xs De δ M
  | [], δ, M, h => fin δ M h
  | x :: xs, δ, M, h => step x xs δ M _ (fun δ M h => dLoop_ind I step fin xs δ M h) h
theorem dLcL_ind {chk : Mem → Prop} {g : DG} {tt : DT} {te : DE} {δ : DS0} {Q : List D → Mem → Prop} (I : List D → List D → Mem → Prop)
    (step : ∀ x xs acc M (K : List D → Mem → Prop), (∀ acc M, I xs acc M → K acc M) → I (x :: xs) acc M → chk M ∧ acc.length < sizeLine ∧ g x δ M fun δ2 M2 => tt δ2 M2 fun b M3 => if b = true then te δ2 M3 fun y M4 => K (acc ++ [y]) M4 else K acc M3)
    (fin : ∀ acc M, I [] acc M → chk M ∧ Q acc M) : ∀ xs acc M, I xs acc M → dLcL chk g tt te δ xs acc M Q
  | [], acc, M, h => fin acc M h
  | x :: xs, acc, M, h => step x xs acc M (fun acc M => dLcL chk g tt te δ xs acc M Q) (fun acc M h => dLcL_ind I step fin xs acc M h) h
/-- a comprehension over values that makes a value of each -/
theorem lc_map {j : Nat} {te : DE} {δ : DS0} {Q : List D → Mem → Prop} (f : D → D) (P : D → Prop) (h : ∀ x M (K : DK), P x → K (f x) M → te (δ.set j (some x)) M K) :
    ∀ xs acc M, (∀ x, x ∈ xs → P x) → acc.length + xs.length ≤ sizeLine → Q (acc ++ xs.map f) M → dLcL always (gNm j) dYes te δ xs acc M Q
  | [], acc, M, _, _, q => ⟨trivial, by simpa using q⟩
  | x :: xs, acc, M, hp, hl, q => by
    refine ⟨trivial, by rw [List.length_cons] at hl; omega, ?_⟩
    refine ite_t (B := dLcL always (gNm j) dYes te δ xs acc M Q) (h x M _ (hp x List.mem_cons_self) (lc_map f P h xs _ M (fun y hy => hp y (List.mem_cons_of_mem _ hy)) ?_ ?_))
    · rw [List.length_append, List.length_singleton]; rw [List.length_cons] at hl; omega
    · simpa using q
theorem sz16 {n : Nat} (h : n ≤ 1000000) : n ≤ sizeLine := Nat.le_trans h (by decide)
theorem sz16lt {n : Nat} (h : n < 1000000) : n < sizeLine := Nat.lt_of_lt_of_le h (by decide)
theorem mulL {i j : Int} (h1 : -(2 ^ 64) < i) (h2 : i < 2 ^ 64) : IntMulOk i j := .of_left (intBits_le_64 h1 h2)
theorem mulR {i j : Int} (h1 : -(2 ^ 64) < j) (h2 : j < 2 ^ 64) : IntMulOk i j := .of_right (intBits_le_64 h1 h2)
theorem fmod_pos {a b : Int} (h : 0 < b) : a.fmod b = a % b := Int.fmod_eq_emod_of_nonneg a (by omega)
theorem fdiv_pos {a b : Int} (h : 0 < b) : a.fdiv b = a / b := Int.fdiv_eq_ediv_of_nonneg a (by omega)
theorem cfd_small {i j : Int} (h : 0 < j) (h2 : j < 1000000000) : CFd i j := ⟨by omega, by
  by_cases h0 : j.natAbs = 0
  · rw [h0]; decide
  · have : j.natAbs.log2 < 30 := (Nat.log2_lt h0).mpr (by omega)
    omega⟩
theorem atI_nn {α : Type} {xs : List α} {k : Int} {v : α} (h0 : 0 ≤ k) (h : xs[k.toNat]? = some v) : atI xs k = some v := by
  have e : k = ((k.toNat : Nat) : Int) := by omega
  rw [e]
  exact atI_nat h
theorem reps_ints {O : Own} {H M} : ∀ ns : List Int, Reps O H M (ns.map D.int) (ns.map V.int)
  | [] => rfl
  | n :: ns => ⟨_, _, rfl, rfl, reps_ints ns⟩
/-- a law's end: its def keeps the promise over the script -/
theorem walkD {l : PySem.W.OpenLaw} {n k : Nat} {q : Program} {loose : List Str} {XP : (Str → Option Value) → Heap → Prop} {YP : World → Heap → Prop} {d : DefRec} {x : Str} (sp : DSp)
    (hn : l.most = some n) (hn2 : n ≤ sizeLine) (hdf : d.params.defaults = []) (hr : Room k callerA)
    (hs : ∀ (ns : List Int) (M : Mem), ns.length ≤ n → sp [.scr (ns.map D.int)] M (fun r _ => r = .bl true) noX)
    (F : ∀ (w : World) (mg : Str → Option Value) (fa : Addr) (h : Heap), YP w h → h.Ns mainGlobals mg → mg d.name = some (.ref fa) → ∃ (K : PySem.W.Frag) (fd : FuncData) (CR : Addr),
      K.In h ∧ (∀ (s : Shared) (u : Value), BindsTo s fd ⟨[u], []⟩ [(x, u)]) ∧ ∀ base : Heap, K.In base → base.Ns mainGlobals mg → FnOk l.prog w K mg base (L2.CX l.prog w) k fa fd [x] (lSp K CR sp)) :
    PySem.W.WalkO q loose XP YP l.row.toRowW d [] (fun f us => PySem.call f us) := by
  refine Att.attach_call hn hdf fun w s0 s1 mg mb fa o pm cd doc a us ns G Y ho hd hcd hmg hobj hints hlen hg => ?_
  obtain ⟨K, fd, CR, KX, hb, hF⟩ := F w mg fa _ Y G.T.g hmg
  refine law_call KX G.T.g G.T.b G.T.builtins G.T.nolimit hg hobj hints (Nat.le_trans hlen hn2) hr hF hb (fun H hO hS => ?_) fun H e s' ⟨_, _, _, _, _, _, _, _, _, _, _, _, no⟩ => no
  refine ⟨fun _ => False, [.scr (ns.map D.int)], fun _ => none, _, noX, ⟨_, _, rfl, ⟨a, _, rfl, ?_, reps_ints ns⟩, rfl⟩, ⟨fun _ _ e => (by cases e), fun _ (h : False) => h.elim⟩, hs ns _ hlen, fun v H' ⟨r, M', z, g, rr, e⟩ => ?_, fun c d H' l => l.no⟩
  · rcases hS with h | h
    · exact .inl ⟨⟨rfl, id⟩, h⟩
    · exact .inr (.inr h)
  subst e
  exact rr
section
variable {X : Cx} {CR : Addr} {E : DXS} {W : WX} {pos : Pos}
/-- a number, a text at the module's top -/
theorem d_kint {x : Str} {i : Int} (hm : ∃ t, X.mg x = some (.int i t)) (hg : Gl X x := by rfl) (hd : (x == ("__debug__" : Str)) = false := by decide) : PD X (bs X CR E W) (.Name x pos) (dC (.int i)) :=
  let ⟨_, e⟩ := hm; pd_c (pe_glob (v := .int i) hg e ⟨_, rfl⟩ hd) fun _ _ _ => rfl
theorem d_kstr {x z : Str} (hm : ∃ t, X.mg x = some (.str z t)) (hg : Gl X x := by rfl) (hd : (x == ("__debug__" : Str)) = false := by decide) : PD X (bs X CR E W) (.Name x pos) (dC (.str z)) :=
  let ⟨_, e⟩ := hm; pd_c (pe_glob (v := .str z) hg e ⟨_, rfl⟩ hd) fun _ _ _ => rfl
end
/-! fractions: plain laws over Rat -/
theorem gcdN (a b : Int) (h : b ≠ 0) : 0 < Nat.gcd a.natAbs b.natAbs := Nat.gcd_pos_of_pos_right _ (Int.natAbs_pos.mpr h)
/-- what __init__ reckons: the common divisor with the bottom's sign -/
def comm (a b : Int) : Int := if b < 0 then -((Nat.gcd a.natAbs b.natAbs : Nat) : Int) else ((Nat.gcd a.natAbs b.natAbs : Nat) : Int)
theorem comm_ne {a b : Int} (h : b ≠ 0) : comm a b ≠ 0 := by
  have := gcdN a b h
  unfold comm
  split <;> omega
theorem comm_le {a b : Int} (h : b ≠ 0) : (comm a b).natAbs ≤ b.natAbs := by
  have : Nat.gcd a.natAbs b.natAbs ≤ b.natAbs := Nat.le_of_dvd (Int.natAbs_pos.mpr h) (Nat.gcd_dvd_right _ _)
  unfold comm
  split <;> omega
theorem dvd_a (a b : Int) : ((Nat.gcd a.natAbs b.natAbs : Nat) : Int) ∣ a := Int.ofNat_dvd_left.mpr (Nat.gcd_dvd_left _ _)
theorem dvd_b (a b : Int) : ((Nat.gcd a.natAbs b.natAbs : Nat) : Int) ∣ b := Int.ofNat_dvd_left.mpr (Nat.gcd_dvd_right _ _)
theorem fdiv_neg' {a g : Int} (h : g ∣ a) (hg : g ≠ 0) : a.fdiv (-g) = -(a / g) := by
  obtain ⟨c, rfl⟩ := h
  rw [Int.mul_ediv_cancel_left _ hg]
  have e : g * c = (-g) * (-c) := by rw [Int.neg_mul_neg]
  rw [e, Int.mul_fdiv_cancel_left _ (by omega)]
theorem init_num {a b : Int} (h : b ≠ 0) : a.fdiv (comm a b) = (Rat.divInt a b).num := by
  have hg := gcdN a b h
  have e : Int.gcd b a = Nat.gcd a.natAbs b.natAbs := by rw [Int.gcd, Nat.gcd_comm]
  rw [Rat.num_divInt, e]
  unfold comm
  split
  · rename_i n
    rw [Int.sign_eq_neg_one_of_neg n, fdiv_neg' (dvd_a a b) (by omega)]
    rw [Int.neg_one_mul, Int.neg_ediv_of_dvd (dvd_a a b)]
  · rw [Int.sign_eq_one_of_pos (by omega), Int.one_mul, Int.fdiv_eq_ediv_of_dvd (dvd_a a b)]
theorem init_den {a b : Int} (h : b ≠ 0) : b.fdiv (comm a b) = ((Rat.divInt a b).den : Int) := by
  have hg := gcdN a b h
  have e : Int.gcd b a = Nat.gcd a.natAbs b.natAbs := by rw [Int.gcd, Nat.gcd_comm]
  rw [Rat.den_divInt, e, if_neg h]
  unfold comm
  rw [Int.natCast_ediv]
  split
  · rename_i n
    rw [fdiv_neg' (dvd_b a b) (by omega)]
    have : (b.natAbs : Int) = -b := by omega
    rw [this, Int.neg_ediv_of_dvd (dvd_b a b)]
  · rw [Int.fdiv_eq_ediv_of_dvd (dvd_b a b)]
    have : (b.natAbs : Int) = b := by omega
    rw [this]
theorem dne (q : Rat) : (q.den : Int) ≠ 0 := by have := q.den_pos; omega
theorem dpos (q : Rat) : 0 < (q.den : Int) := by have := q.den_pos; omega
theorem q_add (p q : Rat) : Rat.divInt (p.num * q.den + q.num * p.den) (p.den * q.den) = p + q := by
  rw [← Rat.divInt_add_divInt _ _ (dne p) (dne q), Rat.num_divInt_den, Rat.num_divInt_den]
theorem q_sub (p q : Rat) : Rat.divInt (p.num * q.den - q.num * p.den) (p.den * q.den) = p - q := by
  rw [← Rat.divInt_sub_divInt _ _ (dne p) (dne q), Rat.num_divInt_den, Rat.num_divInt_den]
theorem q_mul (p q : Rat) : Rat.divInt (p.num * q.num) (p.den * q.den) = p * q := by
  rw [← Rat.divInt_mul_divInt, Rat.num_divInt_den, Rat.num_divInt_den]
theorem q_neg (p : Rat) : Rat.divInt (-p.num) p.den = -p := by
  rw [← Rat.neg_divInt, Rat.num_divInt_den]
theorem q_num0 {p : Rat} : p.num = 0 ↔ p = 0 := Rat.num_eq_zero
theorem q_over (p q : Rat) (h : q ≠ 0) : Rat.divInt (p.num * q.den) (p.den * q.num) = p / q := by
  have hq : q.num ≠ 0 := fun e => h (q_num0.mp e)
  have e : q = (q.num : Rat) / ((q.den : Int) : Rat) := by rw [← Rat.divInt_eq_div, Rat.num_divInt_den]
  have e2 : p = (p.num : Rat) / ((p.den : Int) : Rat) := by rw [← Rat.divInt_eq_div, Rat.num_divInt_den]
  rw [Rat.divInt_eq_div, Rat.intCast_mul, Rat.intCast_mul]
  have h1 : (q.num : Rat) ≠ 0 := fun e => hq (Rat.intCast_inj.mp (by simpa using e))
  have h2 : ((q.den : Int) : Rat) ≠ 0 := fun e => dne q (Rat.intCast_inj.mp (by simpa using e))
  have h3 : ((p.den : Int) : Rat) ≠ 0 := fun e => dne p (Rat.intCast_inj.mp (by simpa using e))
  generalize hA : (p.num : Rat) = A at *
  generalize hB : ((p.den : Int) : Rat) = B at *
  generalize hC : (q.num : Rat) = C at *
  generalize hD : ((q.den : Int) : Rat) = G at *
  rw [e2, e]
  grind
theorem q_abs (p : Rat) : Rat.divInt (p.num.natAbs : Int) p.den = p.abs := by
  by_cases h : 0 ≤ p.num
  · rw [Int.natAbs_of_nonneg h, Rat.num_divInt_den, Rat.abs_of_nonneg (Rat.num_nonneg.mp h)]
  · have : (p.num.natAbs : Int) = -p.num := by omega
    rw [this, q_neg, Rat.abs_of_nonpos (by
      have : ¬ (0 : Rat) ≤ p := fun e => h (Rat.num_nonneg.mpr e)
      exact Rat.le_of_lt (Rat.not_le.mp this))]
theorem q_eq (p q : Rat) : p = q ↔ p.num = q.num ∧ (p.den : Int) = q.den := ⟨fun h => h ▸ ⟨rfl, rfl⟩, fun ⟨h1, h2⟩ => Rat.ext h1 (by omega)⟩
theorem q_int (n : Int) : Rat.divInt n 1 = (n : Rat) := by rw [Rat.divInt_eq_div]; grind
/-! ### sizes -/
/-- at most n bits above and below -/
def Bt (n : Nat) (q : Rat) : Prop := q.num.natAbs ≤ 2 ^ n ∧ q.den ≤ 2 ^ n
theorem Bt.mono {n m : Nat} {q : Rat} (h : Bt n q) (k : n ≤ m) : Bt m q := ⟨Nat.le_trans h.1 (Nat.pow_le_pow_right (by decide) k), Nat.le_trans h.2 (Nat.pow_le_pow_right (by decide) k)⟩
theorem bt_div {n : Nat} {a b : Int} (ha : a.natAbs ≤ 2 ^ n) (hb : b.natAbs ≤ 2 ^ n) : Bt n (Rat.divInt a b) := by
  by_cases h : b = 0
  · subst h
    rw [Rat.divInt_zero]
    exact ⟨Nat.zero_le _, Nat.one_le_two_pow⟩
  · have e1 := init_num (a := a) h
    have e2 := init_den (a := a) h
    have k : ∀ x : Int, ∀ g : Int, g ≠ 0 → (g ∣ x) → (x.fdiv g).natAbs ≤ x.natAbs := fun x g hg ⟨c, hc⟩ => by
      subst hc
      rw [Int.mul_fdiv_cancel_left _ hg, Int.natAbs_mul]
      exact Nat.le_mul_of_pos_left _ (Int.natAbs_pos.mpr hg)
    have d : ∀ x : Int, ((Nat.gcd a.natAbs b.natAbs : Nat) : Int) ∣ x → comm a b ∣ x := fun x hx => by
      unfold comm
      split
      · exact Int.neg_dvd.mpr hx
      · exact hx
    refine ⟨?_, ?_⟩
    · rw [← e1]
      exact Nat.le_trans (k _ _ (comm_ne h) (d _ (dvd_a a b))) ha
    · have := k _ _ (comm_ne h) (d _ (dvd_b a b))
      rw [e2] at this
      have t : (((Rat.divInt a b).den : Int)).natAbs = (Rat.divInt a b).den := Int.natAbs_natCast _
      omega
theorem pow_add' (n m : Nat) : 2 ^ (n + m) = 2 ^ n * 2 ^ m := Nat.pow_add ..
theorem bt_mul {n m : Nat} {p q : Rat} (hp : Bt n p) (hq : Bt m q) : Bt (n + m) (p * q) := by
  rw [← q_mul]
  refine bt_div ?_ ?_
  · rw [Int.natAbs_mul, pow_add']; exact Nat.mul_le_mul hp.1 hq.1
  · rw [Int.natAbs_mul, pow_add']; exact Nat.mul_le_mul (by simpa using hp.2) (by simpa using hq.2)
theorem bt_add {n m : Nat} {p q : Rat} (hp : Bt n p) (hq : Bt m q) : Bt (n + m + 1) (p + q) := by
  rw [← q_add]
  have h1 : (p.num * q.den).natAbs ≤ 2 ^ (n + m) := by rw [Int.natAbs_mul, pow_add']; exact Nat.mul_le_mul hp.1 (by simpa using hq.2)
  have h2 : (q.num * p.den).natAbs ≤ 2 ^ (n + m) := by rw [Int.natAbs_mul, pow_add', Nat.mul_comm]; exact Nat.mul_le_mul (by simpa using hp.2) hq.1
  have h3 : ((p.den : Int) * q.den).natAbs ≤ 2 ^ (n + m) := by rw [Int.natAbs_mul, pow_add']; exact Nat.mul_le_mul (by simpa using hp.2) (by simpa using hq.2)
  have e : 2 ^ (n + m + 1) = 2 ^ (n + m) + 2 ^ (n + m) := by rw [Nat.pow_succ]; omega
  refine bt_div ?_ ?_
  · rw [e]; omega
  · rw [e]; omega
theorem bt_neg {n : Nat} {p : Rat} (hp : Bt n p) : Bt n (-p) := by
  rw [← q_neg]
  exact bt_div (by rw [Int.natAbs_neg]; exact hp.1) (by simpa using hp.2)
theorem bt_abs {n : Nat} {p : Rat} (hp : Bt n p) : Bt n p.abs := by
  rw [← q_abs]
  exact bt_div (by rw [Int.natAbs_natCast]; exact hp.1) (by simpa using hp.2)
theorem bt_sub {n m : Nat} {p q : Rat} (hp : Bt n p) (hq : Bt m q) : Bt (n + m + 1) (p - q) := by
  rw [Rat.sub_eq_add_neg]; exact bt_add hp (bt_neg hq)
theorem bt_over {n m : Nat} {p q : Rat} (hp : Bt n p) (hq : Bt m q) : Bt (n + m) (p / q) := by
  by_cases h : q = 0
  · subst h
    rw [Rat.div_def, Rat.inv_zero, Rat.mul_zero]
    exact ⟨Nat.zero_le _, Nat.one_le_two_pow⟩
  · rw [← q_over p q h]
    refine bt_div ?_ ?_
    · rw [Int.natAbs_mul, pow_add']; exact Nat.mul_le_mul hp.1 (by simpa using hq.2)
    · rw [Int.natAbs_mul, pow_add']; exact Nat.mul_le_mul (by simpa using hp.2) hq.1
theorem bt_int {n : Nat} {i : Int} (h : i.natAbs ≤ 2 ^ n) : Bt n (i : Rat) := ⟨by rw [Rat.num_intCast]; exact h, by rw [Rat.den_intCast]; exact Nat.one_le_two_pow⟩
/-! ### fractions: fields, the making -/
section
variable {X : Cx} {CR : Addr} {E : DXS} {W : WX} {pos : Pos}
/-- a statement that is never reached -/
def dNever : DSt := fun _ _ _ => False
theorem s_never {st : Stmt} : PDS X (bs X CR E W) st dNever := ⟨fun p s σ H Dn I h => by obtain ⟨_, _, _, _, _, _, _, h, _⟩ := h; exact h.elim⟩
def dTop (w : DE) : DE := fun δ M Q => w δ M fun d M1 => ∃ q, d = .rat q ∧ Q (.int q.num) M1
def dBot (w : DE) : DE := fun δ M Q => w δ M fun d M1 => ∃ q, d = .rat q ∧ Q (.int q.den) M1
theorem d_top {e : Expr} {w : DE} (c : Cls X.K CR) (n : NoAttr X.K CR "top") (he : PD X (bs X CR E W) e w) (hb : attributeBase e "top" X.env (eval e X.env) = eval e X.env := by rfl) : PD X (bs X CR E W) (.Attribute e "top" pos) (dTop w) := by
  refine (pe_fld he hb).imp fun σ H Q h => ?_
  obtain ⟨P, δ, M, Qd, hS, g, x, w, k⟩ := h
  refine ⟨P, δ, M, _, hS, g, x, w, fun v H1 ⟨d, M1, z, g1, r, q, hd, hq⟩ => ?_⟩
  subst hd
  obtain ⟨a, dx, ev, _, ea⟩ := r
  exact ⟨a, CR, dx, _, .int q.num, ev, ea, c, n, rfl, k _ _ ⟨.int q.num, M1, z, g1, rfl, hq⟩⟩
theorem d_bot {e : Expr} {w : DE} (c : Cls X.K CR) (n : NoAttr X.K CR "bottom") (he : PD X (bs X CR E W) e w) (hb : attributeBase e "bottom" X.env (eval e X.env) = eval e X.env := by rfl) : PD X (bs X CR E W) (.Attribute e "bottom" pos) (dBot w) := by
  refine (pe_fld he hb).imp fun σ H Q h => ?_
  obtain ⟨P, δ, M, Qd, hS, g, x, w, k⟩ := h
  refine ⟨P, δ, M, _, hS, g, x, w, fun v H1 ⟨d, M1, z, g1, r, q, hd, hq⟩ => ?_⟩
  subst hd
  obtain ⟨a, dx, ev, _, ea⟩ := r
  exact ⟨a, CR, dx, _, .int q.den, ev, ea, c, n, rfl, k _ _ ⟨.int q.den, M1, z, g1, rfl, hq⟩⟩
/-- o.f = value: a new field at the end, or another value of one that is there -/
inductive PutN (f : Str) (d : D) : List Str → List D → List Str → List D → Prop where
  | new {ns xs} (h : f ∉ ns) : PutN f d ns xs (ns ++ [f]) (xs ++ [d])
  | old {ns xs} (i : Nat) (h : ns[i]? = some f) (hn : ∀ j, j < i → ns[j]? ≠ some f) : PutN f d ns xs ns (xs.set i d)
theorem putF_new {f : Str} {v : V} : ∀ {ns : List Str} {vs : List V}, f ∉ ns → ns.length = vs.length → putF f v (ns.zip vs) = (ns ++ [f]).zip (vs ++ [v])
  | [], [], _, _ => rfl
  | [], _ :: _, _, h => by cases h
  | _ :: _, [], _, h => by cases h
  | n :: ns, x :: vs, h, hl => by
    have h1 : ¬ n = f := fun e => h (e ▸ List.mem_cons_self)
    show putF f v ((n, x) :: ns.zip vs) = (n, x) :: (ns ++ [f]).zip (vs ++ [v])
    unfold putF
    rw [if_neg h1, putF_new (fun m => h (List.mem_cons_of_mem _ m)) (by simpa using hl)]
theorem putF_old {f : Str} {v : V} : ∀ {ns : List Str} {vs : List V} (i : Nat), ns[i]? = some f → (∀ j, j < i → ns[j]? ≠ some f) → ns.length = vs.length → putF f v (ns.zip vs) = ns.zip (vs.set i v)
  | [], _, _, h, _, _ => by simp at h
  | _ :: _, [], _, _, _, h => by cases h
  | n :: ns, x :: vs, i, h, hn, hl => by
    show putF f v ((n, x) :: ns.zip vs) = _
    unfold putF
    cases i with
    | zero =>
      simp at h
      rw [if_pos h]; rfl
    | succ i =>
      have h1 : ¬ n = f := fun e => hn 0 (by omega) (by simp [e])
      rw [if_neg h1, putF_old i (by simpa using h) (fun j hj => by simpa using hn (j + 1) (by omega)) (by simpa using hl)]
      rfl
def dFldSet (okC : Addr → Prop) (f : Str) (wo wv : DE) : DSt := fun Dn δ M => wv δ M fun y M1 => wo δ M1 fun x M2 => ∃ p C ns xs ns' xs', x = .ref p ∧ M2 p = some (.ins C ns xs) ∧ okC C ∧ ns.length < 1000 ∧ ns.length = xs.length ∧ PutN f y ns xs ns' xs' ∧ Dn.nx δ (mput M2 p (.ins C ns' xs'))
theorem s_fld {o value : Expr} {wo wv : DE} {okC : Addr → Prop} {f : Str} {pos' : Pos} (hC : ∀ C, okC C → Cls X.K C ∧ NoAttr X.K C f) (ho : PD X (bs X CR E W) o wo) (hv : PD X (bs X CR E W) value wv)
    (hs : swapsWith value (some (.Attribute o f pos')) pos.line X.env = pure false := by rfl) : PDS X (bs X CR E W) (.Assign [.Attribute o f pos'] value pos) (dFldSet okC f wo wv) := by
  refine (ps_fld ho hv hs).imp fun Dn σ H h => ?_
  obtain ⟨P, δ, M, Dd, hS, g, x, w, k⟩ := h
  refine ⟨P, δ, M, _, hS, g, x, w, fun vy H1 ⟨y, M1, z1, g1, ry, q1⟩ => ⟨P, δ, M1, _, hS.mono z1, g1, x.trans z1, q1, fun vx H2 ⟨xd, M2, z2, g2, rx, p, C, ns, xs, ns', xs', ex, em, ok, hl, hl2, pt, q2⟩ => ?_⟩⟩
  subst ex
  obtain ⟨dx, vs, e1, l1, rs⟩ := g2.at_ p _ em
  obtain ⟨c, n⟩ := hC C ok
  have ry2 := ry.mono z2
  have lz : (ns.zip vs).length < 1000 := by rw [List.length_zip, ← l1]; omega
  refine ⟨p, C, dx, ns.zip vs, rx, e1, c, n, lz, ?_⟩
  have z3 : Fz ⟨X.K, CR, P⟩ H2 M2 (upd H2 p (.ins C dx (putF f vy (ns.zip vs)))) (mput M2 p (.ins C ns' xs')) := fz_put g2 em
  refine k.nx σ _ ⟨δ, _, (z1.trans z2).trans z3, good_put g2 (g2.noP em) z3 ?_, ((hS.mono z1).mono z2).mono z3, q2⟩
  cases pt with
  | new h => exact ⟨dx, vs ++ [vy], by rw [upd_same, putF_new h l1], by rw [List.length_append, List.length_append, l1]; rfl, (rs.mono z3).append (Reps.one (ry2.mono z3))⟩
  | old i h hn => exact ⟨dx, vs.set i vy, by rw [upd_same, putF_old i h hn l1], by rw [List.length_set, l1], Reps.set (ry2.mono z3) i (rs.mono z3)⟩
/-! ### Ratio(..) -/
def szB (_ : Int) : Prop := True
def CFb (_ j : Int) : Prop := j ≠ 0
def rFdivB : D2 := rI2 CFb fun i j => .int (i.fdiv j)
/-- a division may go by pylong: there is room for it -/
def PyR (X : Cx) : Prop := ∀ (pins : List (Addr × Obj)) (σ : L2.St) (H : Hp) (s : Shared), Inv X pins σ H s → PySem.PylongRoom (model X.prog X.w) X.A s
theorem o_fdivB {X : Cx} {CR : Addr} (p : PyR X) : OpR X (binaryOp .FloorDiv) (l2 X.K CR rFdivB) := ops_int (C := CFb) (g := fun i j => i.fdiv j) fun pins s σ H x y v u Q I rx ry h => by
  obtain ⟨i, j, rfl, rfl, hc, q⟩ := h
  obtain ⟨t, rfl⟩ := rx
  obtain ⟨t', rfl⟩ := ry
  exact floordiv_int hc ⟨.int (i.fdiv j), H, I.tok _, ⟨_, rfl⟩, q⟩ (.inr (p pins σ H s I))
end
def sp_init (CR : Addr) : DSp := fun ds M Q _ => ∃ (p : Addr) (a b : Int), ds = [.ref p, .int a, .int b] ∧ M p = some (.ins CR [] []) ∧ b ≠ 0 ∧ szB b ∧ Q .non (mput M p (.ins CR ["top", "bottom"] [.int (Rat.divInt a b).num, .int (Rat.divInt a b).den]))
def MkD : List D → Mem → DK → Prop := fun ds M Q => match ds with
  | [.int a] => Q (.rat (a : Rat)) M
  | [.int a, .int b] => b ≠ 0 ∧ szB b ∧ Q (.rat (Rat.divInt a b)) M
  | _ => False
def dMk (t : DA) : DE := fun δ M Q => t δ M fun ds M1 => MkD ds M1 Q
/-- Ratio's __init__: with a bottom, without one -/
structure MkOk (P : Program) (w : World) (K : PySem.W.Frag) (mg : Str → Option Value) (base : Heap) (CR : Addr) : Prop where
  ex : ∃ f fd d1, Mk K CR f ∧ FnOk P w K mg base (L2.CX P w) 36 f fd ["self", "top", "bottom"] (lSp K CR (sp_init CR)) ∧ Binds K fd ["self", "top", "bottom"] [] ∧ Binds K fd ["self", "top", "bottom"] [d1] ∧ Vals [V.int 1] [d1]
theorem MkD.cases {ds : List D} {M : Mem} {Q : DK} (h : MkD ds M Q) : ∃ (a b : Int), b ≠ 0 ∧ szB b ∧ (ds = [.int a, .int b] ∨ (ds = [.int a] ∧ b = 1)) ∧ Q (.rat (Rat.divInt a b)) M := by
  unfold MkD at h
  split at h
  · exact ⟨_, 1, by decide, trivial, .inr ⟨rfl, rfl⟩, by rw [q_int]; exact h⟩
  · exact ⟨_, _, h.1, h.2.1, .inl rfl, h.2.2⟩
  · exact h.elim
section
variable {X : Cx} {CR : Addr} {E : DXS} {W : WX} {pos p : Pos} {e : Expr} {es : List Expr} {t : DA}
/-- a new instance is one of the memory until it is let go -/
theorem make_end {P : Addr → Prop} {H M} {Q : VK} {Qd : DK} {vs dvs : List V} {a b : Int} (g : Good ⟨X.K, CR, P⟩ H M) (rs : Reps ⟨X.K, CR, P⟩ H M [.int a, .int b] (vs ++ dvs)) (hb : b ≠ 0) (hz : szB b) (q : Qd (.rat (Rat.divInt a b)) M)
    (k : ∀ v H', LfV ⟨X.K, CR, P⟩ H M Qd v H' → Q v H') : ∀ x dx, H x = none → H dx = none → dx ≠ x →
      lSp X.K CR (sp_init CR) (.ref x :: (vs ++ dvs)) (upd (upd H dx (.own x)) x (.ins CR dx [])) (fun v H2 => v = .non ∧ Q (.ref x) H2) E0 := by
  intro x dx hx hd hne
  have z1 : Fz ⟨X.K, CR, P⟩ H M (upd H dx (.own x)) M := fz_new g hd
  have g1 : Good ⟨X.K, CR, P⟩ (upd H dx (.own x)) M := good_new g hd
  have hx1 : upd H dx (.own x) x = none := by rw [upd_ne (Ne.symm hne)]; exact hx
  have z2 : Fz ⟨X.K, CR, P⟩ (upd H dx (.own x)) M (upd (upd H dx (.own x)) x (.ins CR dx [])) (mput M x (.ins CR [] [])) := fz_newM g1 hx1
  have fx := g.none hx
  have g2 : Good ⟨X.K, CR, P⟩ (upd (upd H dx (.own x)) x (.ins CR dx [])) (mput M x (.ins CR [] [])) := good_put g1 fx.2 z2 ⟨dx, [], upd_same, rfl, rfl⟩
  refine ⟨P, .ref x :: [.int a, .int b], mput M x (.ins CR [] []), fun d M2 => d = .non ∧ M2 = mput M x (.ins CR ["top", "bottom"] [.int (Rat.divInt a b).num, .int (Rat.divInt a b).den]), noX, ⟨_, _, rfl, rfl, (rs.mono z1).mono z2⟩, g2, ⟨x, a, b, rfl, mput_same, hb, hz, rfl, by rw [mput_mput]⟩, ?_, fun c d H' l => l.no⟩
  rintro v H' ⟨d, M2, z, g3, r, rfl, rfl⟩
  refine ⟨r, k _ _ ⟨.rat (Rat.divInt a b), mdel _ x, ((z1.trans z2).trans z).trans fz_del, good_del g3, ?_, by rw [mdel_mput fx.1]; exact q⟩⟩
  obtain ⟨dx', ws, e1, l1, rw1⟩ := g3.at_ x _ mput_same
  obtain ⟨v1, r1, rfl, h1, v2, r2, rfl, h2, h3⟩ := rw1
  rw [show r2 = [] from h3, show v1 = .int _ from h1, show v2 = .int _ from h2] at e1
  exact ⟨x, dx', rfl, ⟨mdel_same, fx.2⟩, e1⟩
theorem MkOk.d_mk {x : Str} (T : MkOk X.prog X.w X.K X.mg X.base CR) (hm : X.mg x = some (.ref CR)) (hr : Room 37 X.A) (ha : PDA X (bs X CR E W) (e :: es) t) (hg : Gl X x := by rfl)
    (hdb : (x == ("__debug__" : Str)) = false := by decide) (he : starEach (e :: es) X.env = (false, eval e X.env) :: starEach es X.env := by rfl) (hpl : (backTo pos (starEach es X.env)).any (·.1) = false := by rfl) : PD X (bs X CR E W) (.Call (.Name x p) (e :: es) [] pos) (dMk t) := by
  obtain ⟨f, fd, d1, mk, F, b0, b1, v1⟩ := T.ex
  refine ⟨fun pins s σ H Q I h => ?_⟩
  refine wpAny_Call_Name_kw (ld_glob I hg hm ?_ hdb)
  refine PySem.W.callWith_K (h₀ := X.base) I.ok.mod.kin mk.kp (thn (ha.run pos pins s σ H (fun vs H1 => ∃ (P : Addr → Prop) (ds : List D) (M1 : Mem) (Qd : DK), Good ⟨X.K, CR, P⟩ H1 M1 ∧ Reps ⟨X.K, CR, P⟩ H1 M1 ds vs ∧ MkD ds M1 Qd ∧ ∀ v H', LfV ⟨X.K, CR, P⟩ H1 M1 Qd v H' → Q v H') I ?_) fun us s1 ⟨vs, H1, I1, r, q⟩ => ⟨I1.kIn, ?_⟩) he hpl
  · obtain ⟨P, δ, M, Qd, hS, g, x, w, k⟩ := h
    exact ⟨P, δ, M, _, hS, g, x, w, fun vs H1 ds M1 z1 g1 rs q => ⟨P, ds, M1, Qd, g1, rs, q, fun v H' l => k v H' (l.trans z1)⟩⟩
  · obtain ⟨P, ds, M1, Qd, g1, rs, q, k⟩ := q
    obtain ⟨a, b, hb, hz, rfl | ⟨rfl, rfl⟩, q3⟩ := q.cases
    · exact run_make mk F hr b0 .nil passL I1 r (make_end (vs := vs) (dvs := []) g1 (by rw [List.append_nil]; exact rs) hb hz q3 k)
    · exact run_make mk F hr b1 v1 passL I1 r (make_end (vs := vs) (dvs := [V.int 1]) g1 (rs.append (Reps.one (d := .int 1) rfl)) hb hz q3 k)
end
/-! ### fractions: the class's own operators -/
/-- a method of two, of one -/
structure Op2 (P : Program) (w : World) (K : PySem.W.Frag) (mg : Str → Option Value) (base : Heap) (CR : Addr) (name : Str) (sp : DSp) : Prop where
  ex : ∃ f fd, FnOk P w K mg base (L2.CX P w) 38 f fd ["self", "other"] (lSp K CR sp) ∧ Binds K fd ["self", "other"] [] ∧ PySem.W.findIn K (.ref CR) name = some (some (.ref f)) ∧ PySem.W.isFn K (.ref f) = true
structure Op1 (P : Program) (w : World) (K : PySem.W.Frag) (mg : Str → Option Value) (base : Heap) (CR : Addr) (name : Str) (sp : DSp) : Prop where
  ex : ∃ f fd, FnOk P w K mg base (L2.CX P w) 38 f fd ["self"] (lSp K CR sp) ∧ Binds K fd ["self"] [] ∧ PySem.W.findIn K (.ref CR) name = some (some (.ref f)) ∧ PySem.W.isFn K (.ref f) = true
section
variable {X : Cx} {CR : Addr} {pins : List (Addr × Obj)} {σ : L2.St} {s : Shared}
theorem cmpBack {H : Hp} {Q : VK} {u : Value} {s' : Shared} (h : EP X pins σ Q u s') : PySem.W.CmpBack (EP X pins σ Q) u s' := by
  obtain ⟨v, H', I, r, q⟩ := id h
  cases v with
  | non => rw [show u = _ from r] at h ⊢; exact h
  | bl b => rw [show u = _ from r] at h ⊢; exact h
  | int i => obtain ⟨t, e⟩ := (show ∃ t, u = Value.int i t from r); rw [e] at h ⊢; exact h
  | str i => obtain ⟨t, e⟩ := (show ∃ t, u = Value.str i t from r); rw [e] at h ⊢; exact h
  | byt i => obtain ⟨t, e⟩ := (show ∃ t, u = Value.bytes i t from r); rw [e] at h ⊢; exact h
  | flt i => obtain ⟨t, e⟩ := (show ∃ t, u = Value.float i t from r); rw [e] at h ⊢; exact h
  | ref i => rw [show u = _ from r] at h ⊢; exact h
  | ty i => rw [show u = _ from r] at h ⊢; exact h
/-- what the two-place rules tell: two fractions, the method's promise -/
def r2 (sp : DSp) : D2 := fun a b M Q => ∃ p q, a = .rat p ∧ b = .rat q ∧ sp [.rat p, .rat q] M Q noX
theorem lSp_of {P : Addr → Prop} {H M} {ds : List D} {vs : List V} {sp : DSp} {Q : VK} {Qd : DK} (g : Good ⟨X.K, CR, P⟩ H M) (rs : Reps ⟨X.K, CR, P⟩ H M ds vs) (h : sp ds M Qd noX) (k : ∀ v H', LfV ⟨X.K, CR, P⟩ H M Qd v H' → Q v H') : lSp X.K CR sp vs H Q E0 :=
  ⟨P, ds, M, Qd, noX, rs, g, h, k, fun c d H' l => l.no⟩
theorem o_bin {op : Operator} {name : Str} {sp : DSp} (O : Op2 X.prog X.w X.K X.mg X.base CR name sp) (hn : name = PySem.dunder op.info.2) (hr : Room 38 X.A) (hc : PySem.W.selfFirst X.K CR = true) : OpR X (binaryOp op) (l2 X.K CR (r2 sp)) := by
  intro pins s σ H x y v u Q I rx ry ⟨P, a, b, M, Qd, ra, rb, g, ⟨p, q, ea, eb, h⟩, k⟩
  subst ea; subst eb; subst hn
  obtain ⟨f, fd, F, hb, hs, hf⟩ := O.ex
  have rs : Reps ⟨X.K, CR, P⟩ H M [.rat p, .rat q] [x, y] := ⟨_, _, rfl, ra, _, _, rfl, rb, rfl⟩
  obtain ⟨a, dx, rfl, _, ha⟩ := ra
  obtain ⟨b, dy, rfl, _, hb'⟩ := rb
  obtain rfl : v = Value.ref a := rx
  obtain rfl : u = Value.ref b := ry
  obtain ⟨mA, J, _⟩ := ins_get I.hok ha
  obtain ⟨mB, J', _⟩ := ins_get I.hok hb'
  obtain ⟨od, J, _⟩ := J.look
  obtain ⟨od', J', _⟩ := J'.look
  obtain ⟨m, hF⟩ := I.fr
  refine PySem.W.binop_K hF I.ok.mod.kin J J'.type hc hs hf ?_
  exact wpAny_mono (run_fn (vs := [.ref a, .ref b]) (us := [.ref a, .ref b]) (dvs := []) F hr hb .nil passL I (.cons rfl (.cons rfl .nil)) (lSp_of g rs h k)) (fun r s' q => cmpBack (H := H) q) fun _ _ z => z
theorem o_cmpR {op : CmpOp} {name : Str} {sp : DSp} (O : Op2 X.prog X.w X.K X.mg X.base CR name sp) (hn : name = (cmpInfo op).2.1) (hr : Room 38 X.A) : OpR X (richCompare op) (l2 X.K CR (r2 sp)) := by
  intro pins s σ H x y v u Q I rx ry ⟨P, a, b, M, Qd, ra, rb, g, ⟨p, q, ea, eb, h⟩, k⟩
  subst ea; subst eb; subst hn
  obtain ⟨f, fd, F, hb, hs, hf⟩ := O.ex
  have rs : Reps ⟨X.K, CR, P⟩ H M [.rat p, .rat q] [x, y] := ⟨_, _, rfl, ra, _, _, rfl, rb, rfl⟩
  obtain ⟨a, dx, rfl, _, ha⟩ := ra
  obtain ⟨b, dy, rfl, _, hb'⟩ := rb
  obtain rfl : v = Value.ref a := rx
  obtain rfl : u = Value.ref b := ry
  obtain ⟨mA, J, _⟩ := ins_get I.hok ha
  obtain ⟨mB, J', _⟩ := ins_get I.hok hb'
  obtain ⟨od, J, _⟩ := J.look
  obtain ⟨od', J', _⟩ := J'.look
  obtain ⟨m, hF⟩ := I.fr
  refine PySem.W.cmp_K hr.units0 hF I.ok.mod.kin J J'.type (by simp [PySem.W.notFirst]) hs hf ?_
  exact wpAny_mono (run_fn (vs := [.ref a, .ref b]) (us := [.ref a, .ref b]) (dvs := []) F hr hb .nil passL I (.cons rfl (.cons rfl .nil)) (lSp_of g rs h k)) (fun r s' q => cmpBack (H := H) q) fun _ _ z => z
def r1 (sp : DSp) : D1 := fun a M Q => ∃ p, a = .rat p ∧ sp [.rat p] M Q noX
theorem o_negR {sp : DSp} (O : Op1 X.prog X.w X.K X.mg X.base CR "__neg__" sp) (hr : Room 38 X.A) : UnR X (unaryOp .USub) (l1 X.K CR (r1 sp)) := by
  intro pins s σ H x v Q I rx ⟨P, a, M, Qd, ra, g, ⟨p, ea, h⟩, k⟩
  subst ea
  obtain ⟨f, fd, F, hb, hs, hf⟩ := O.ex
  have rs : Reps ⟨X.K, CR, P⟩ H M [.rat p] [x] := ⟨_, _, rfl, ra, rfl⟩
  obtain ⟨a, dx, rfl, _, ha⟩ := ra
  obtain rfl : v = Value.ref a := rx
  obtain ⟨mA, J, _⟩ := ins_get I.hok ha
  obtain ⟨od, J, _⟩ := J.look
  obtain ⟨m, hF⟩ := I.fr
  refine PySem.W.ksp_neg hF I.ok.mod.kin J hs hf ?_
  exact run_fn (vs := [.ref a]) (us := [.ref a]) (dvs := []) F hr hb .nil passL I (.cons rfl .nil) (lSp_of g rs h k)
end
/-! ### what the methods promise -/
def Sm (q : Rat) : Prop := Bt 16000000 q
def sp_add : DSp := fun ds M Q _ => ∃ p q, ds = [.rat p, .rat q] ∧ Sm p ∧ Sm q ∧ Q (.rat (p + q)) M
def sp_sub : DSp := fun ds M Q _ => ∃ p q, ds = [.rat p, .rat q] ∧ Sm p ∧ Sm q ∧ Q (.rat (p - q)) M
def sp_mul : DSp := fun ds M Q _ => ∃ p q, ds = [.rat p, .rat q] ∧ Sm p ∧ Sm q ∧ Q (.rat (p * q)) M
def sp_neg : DSp := fun ds M Q _ => ∃ p, ds = [.rat p] ∧ Sm p ∧ Q (.rat (-p)) M
def sp_abs : DSp := fun ds M Q _ => ∃ p, ds = [.rat p] ∧ Sm p ∧ Q (.rat p.abs) M
def sp_lt : DSp := fun ds M Q _ => ∃ p q, ds = [.rat p, .rat q] ∧ Sm p ∧ Sm q ∧ Q (.bl (decide (p < q))) M
def sp_le : DSp := fun ds M Q _ => ∃ p q, ds = [.rat p, .rat q] ∧ Sm p ∧ Sm q ∧ Q (.bl (decide (p ≤ q))) M
def sp_gt : DSp := fun ds M Q _ => ∃ p q, ds = [.rat p, .rat q] ∧ Sm p ∧ Sm q ∧ Q (.bl (decide (q < p))) M
def sp_ge : DSp := fun ds M Q _ => ∃ p q, ds = [.rat p, .rat q] ∧ Sm p ∧ Sm q ∧ Q (.bl (decide (q ≤ p))) M
/-- a fraction and another thing: == -/
def eqB (p : Rat) : D → Option Bool
  | .rat q => some (decide (p = q))
  | .int _ => some false
  | .str _ => some false
  | .non => some false
  | .bl _ => some false
  | _ => none
def sp_eq : DSp := fun ds M Q _ => ∃ p d r, ds = [.rat p, d] ∧ eqB p d = some r ∧ Q (.bl r) M
/-! ### the class as the rules want it -/
def tyNs : List String := ["int", "bool", "str", "tuple", "list", "NoneType"]
structure IsF (K : PySem.W.Frag) (CR : Addr) : Prop where
  cc : PySem.W.findIn K (.ref CR) "__class__" = some (some (.builtin "object.__class__"))
  cg : PySem.W.specialIn K (.builtin "object.__class__") "__get__" = some (some (.builtin "getset_descriptor.__get__"))
  ct : PySem.W.takesIn K (.builtin "object.__class__") = some true
  cm : PySem.W.mroIn K CR (.type "object") = some true
  ne : PySem.W.findIn K (.ref CR) "__ne__" = some (some (.builtin "object.__ne__"))
  no : ∀ n, n ∈ tyNs → PySem.W.kitOne K (.type n) (.ref CR) = some false
  nt : ∀ n, n ∈ tyNs → PySem.W.kitOne K (.ref CR) (.type n) = some false
structure RatT0 (P : Program) (w : World) (K : PySem.W.Frag) (mg : Str → Option Value) (base : Heap) (CR : Addr) : Prop where
  cls : Cls K CR
  nt : NoAttr K CR "top"
  nb : NoAttr K CR "bottom"
  g : mg "Ratio" = some (.ref CR)
  first : PySem.W.selfFirst K CR = true
  isf : IsF K CR
  ini : MkOk P w K mg base CR
structure RatT (P : Program) (w : World) (K : PySem.W.Frag) (mg : Str → Option Value) (base : Heap) (CR : Addr) : Prop extends RatT0 P w K mg base CR where
  add : Op2 P w K mg base CR "__add__" sp_add
  sub : Op2 P w K mg base CR "__sub__" sp_sub
  mul : Op2 P w K mg base CR "__mul__" sp_mul
  neg : Op1 P w K mg base CR "__neg__" sp_neg
  eq : Op2 P w K mg base CR "__eq__" sp_eq
  lt : Op2 P w K mg base CR "__lt__" sp_lt
  le : Op2 P w K mg base CR "__le__" sp_le
  gt : Op2 P w K mg base CR "__gt__" sp_gt
  ge : Op2 P w K mg base CR "__ge__" sp_ge
  abs : Op1 P w K mg base CR "__abs__" sp_abs
def rAdd : D2 := fun a b M Q => match a, b with
  | .rat p, .rat q => Sm p ∧ Sm q ∧ Q (.rat (p + q)) M
  | a, b => rAddP a b M Q
def rSub : D2 := fun a b M Q => match a, b with
  | .rat p, .rat q => Sm p ∧ Sm q ∧ Q (.rat (p - q)) M
  | a, b => rSubI a b M Q
def rMul : D2 := fun a b M Q => match a, b with
  | .rat p, .rat q => Sm p ∧ Sm q ∧ Q (.rat (p * q)) M
  | .lst xs, .int n => -(2 ^ 63) ≤ n ∧ n < 2 ^ 63 ∧ xs.length * n.toNat ≤ sizeLine ∧ Q (.lst (List.replicate n.toNat xs).flatten) M
  | a, b => rMulI a b M Q
theorem reps_rep {O : Own} {H M} {ds : List D} {vs : List V} (h : Reps O H M ds vs) : ∀ n : Nat, Reps O H M (List.replicate n ds).flatten (List.replicate n vs).flatten
  | 0 => rfl
  | n + 1 => by rw [List.replicate_succ, List.replicate_succ, List.flatten_cons, List.flatten_cons]; exact h.append (reps_rep h n)
def rNegA : D1 := fun a M Q => match a with
  | .rat p => Sm p ∧ Q (.rat (-p)) M
  | a => rNeg a M Q
def rEqA : D2 := fun a b M Q => match a with
  | .rat p => ∃ r, eqB p b = some r ∧ Q (.bl r) M
  | a => rEqP a b M Q
def rLtA : D2 := fun a b M Q => match a, b with
  | .rat p, .rat q => Sm p ∧ Sm q ∧ Q (.bl (decide (p < q))) M
  | a, b => rLt a b M Q
def rLeA : D2 := fun a b M Q => match a, b with
  | .rat p, .rat q => Sm p ∧ Sm q ∧ Q (.bl (decide (p ≤ q))) M
  | a, b => rLe a b M Q
def rGtA : D2 := fun a b M Q => match a, b with
  | .rat p, .rat q => Sm p ∧ Sm q ∧ Q (.bl (decide (q < p))) M
  | a, b => rGt a b M Q
def rGeA : D2 := fun a b M Q => match a, b with
  | .rat p, .rat q => Sm p ∧ Sm q ∧ Q (.bl (decide (q ≤ p))) M
  | a, b => rGe a b M Q
section
variable {X : Cx} {CR : Addr} {pins : List (Addr × Obj)} {σ : L2.St} {s : Shared} {k : Nat}
theorem IsF.sub {K : PySem.W.Frag} (c : IsF K CR) {n : String} (h : n ∈ tyNs) : PySem.W.notFirst K CR (.type n) = true := by
  have := c.no n h
  unfold PySem.W.kitOne PySem.W.kitCls at this
  rw [if_neg (by simp)] at this
  dsimp only at this
  split at this
  · unfold PySem.W.notFirst
    rw [this]; simp
  · cases this
/-- the second one's type -/
theorem eqB_look {P : Addr → Prop} {H M} {p : Rat} {d : D} {r : Bool} {y : V} {u : Value} (c : IsF X.K CR) (I : Inv X pins σ H s) (ry : RelV y u) (rb : Rep ⟨X.K, CR, P⟩ H M d y) (h : eqB p d = some r) :
    ∃ tb, PySem.W.Looks (model X.prog X.w) s.heap (typeOf u) tb ∧ PySem.W.notFirst X.K CR tb = true := by
  cases d with
  | rat q =>
    obtain ⟨b, dy, rfl, _, hb⟩ := rb
    obtain rfl : u = Value.ref b := ry
    obtain ⟨mB, J, _⟩ := ins_get I.hok hb
    obtain ⟨od, J, _⟩ := J.look
    exact ⟨_, J.type, by simp [PySem.W.notFirst]⟩
  | int i =>
    rw [show y = .int i from rb] at ry
    obtain ⟨t, rfl⟩ := (show ∃ t, u = Value.int i t from ry)
    exact ⟨.type "int", PySem.W.Looks.of_pure rfl, c.sub (by decide)⟩
  | str i =>
    rw [show y = .str i from rb] at ry
    obtain ⟨t, rfl⟩ := (show ∃ t, u = Value.str i t from ry)
    exact ⟨.type "str", PySem.W.Looks.of_pure rfl, c.sub (by decide)⟩
  | non =>
    rw [show y = .non from rb] at ry
    obtain rfl : u = Value.none := ry
    exact ⟨.type "NoneType", PySem.W.Looks.of_pure rfl, c.sub (by decide)⟩
  | bl i =>
    rw [show y = .bl i from rb] at ry
    obtain rfl : u = Value.bool i := ry
    exact ⟨.type "bool", PySem.W.Looks.of_pure rfl, c.sub (by decide)⟩
  | _ => cases h
theorem RatT.o_eq (T : RatT X.prog X.w X.K X.mg X.base CR) (hr : Room k X.A) (hk : 38 ≤ k := by decide) : OpR X (compareOp .Eq) (l2 X.K CR rEqA) := by
  intro pins s σ H x y v u Q I rx ry ⟨P, a, b, M, Qd, ra, rb, g, h, kk⟩
  cases a with
  | rat p =>
    obtain ⟨r, hq, h⟩ := h
    obtain ⟨f, fd, F, hb, hs, hf⟩ := T.eq.ex
    have rs : Reps ⟨X.K, CR, P⟩ H M [.rat p, b] [x, y] := ⟨_, _, rfl, ra, _, _, rfl, rb, rfl⟩
    obtain ⟨tb, lb, nf⟩ := eqB_look T.isf I ry rb hq
    obtain ⟨a, dx, rfl, _, ha⟩ := ra
    obtain rfl : v = Value.ref a := rx
    obtain ⟨mA, J, _⟩ := ins_get I.hok ha
    obtain ⟨od, J, _⟩ := J.look
    obtain ⟨m, hF⟩ := I.fr
    show wpAny (model X.prog X.w) X.A (richCompare .Eq (.ref a) u) (EP X pins σ Q) X.xe s
    refine PySem.W.cmp_K (op := .Eq) hr.units0 hF I.ok.mod.kin J lb nf hs hf ?_
    exact wpAny_mono (run_fn (vs := [.ref a, y]) (us := [.ref a, u]) (dvs := []) F (hr.mono hk) hb .nil passL I (.cons rfl (.cons ry .nil)) (lSp_of g rs ⟨p, b, r, rfl, hq, h⟩ kk)) (fun r s' q => cmpBack (H := H) q) fun _ _ z => z
  | _ => exact o_eqP hr.units pins s σ H x y v u Q I rx ry ⟨P, _, _, M, Qd, ra, rb, g, h, kk⟩
end
section
variable {X : Cx} {CR : Addr} {E : DXS} {W : WX} {pos : Pos} {k : Nat}
/-- one of two two-place rules, by the values -/
theorem op2_or {f : Value → Value → Sem Value} {ra rb r : D2} (h1 : OpR X f (l2 X.K CR ra)) (h2 : OpR X f (l2 X.K CR rb)) (h : ∀ a b M Q, r a b M Q → ra a b M Q ∨ rb a b M Q) : OpR X f (l2 X.K CR r) := (h1.or h2).imp fun x y H Q hh => by
  obtain ⟨P, a, b, M, Qd, r1, r2, g, q, k⟩ := hh
  rcases h a b M Qd q with q | q
  · exact .inl ⟨P, a, b, M, Qd, r1, r2, g, q, k⟩
  · exact .inr ⟨P, a, b, M, Qd, r1, r2, g, q, k⟩
def rRepD : D2 := fun a b M Q => ∃ xs n, a = .lst xs ∧ b = .int n ∧ -(2 ^ 63) ≤ n ∧ n < 2 ^ 63 ∧ xs.length * n.toNat ≤ sizeLine ∧ Q (.lst (List.replicate n.toNat xs).flatten) M
theorem o_repD : OpR X (binaryOp .Mult) (l2 X.K CR rRepD) := op_rep.imp fun x y H Q hh => by
  obtain ⟨P, a, b, M, Qd, ra, rb, gd, ⟨xs, n, rfl, rfl, h1, h2, h3, q⟩, k⟩ := hh
  obtain ⟨l, vs, rfl, f, rs⟩ := ra
  rw [show y = .int n from rb]
  exact ⟨l, n, vs, rfl, rfl, f.2, h1, h2, by rw [← rs.length]; exact h3, fun p hp => k _ _ (newL gd hp (reps_rep rs _) q)⟩
variable (T : RatT X.prog X.w X.K X.mg X.base CR) (hr : Room k X.A)
include T hr
theorem RatT.o_add (hk : 38 ≤ k := by decide) : OpR X (binaryOp .Add) (l2 X.K CR rAdd) := op2_or (o_bin T.add rfl (hr.mono hk) T.first) o_addP fun a b M Q h => by
  unfold rAdd at h; split at h
  · exact .inl ⟨_, _, rfl, rfl, _, _, rfl, h⟩
  · exact .inr h
theorem RatT.o_sub (hk : 38 ≤ k := by decide) : OpR X (binaryOp .Sub) (l2 X.K CR rSub) := op2_or (o_bin T.sub rfl (hr.mono hk) T.first) o_subI fun a b M Q h => by
  unfold rSub at h; split at h
  · exact .inl ⟨_, _, rfl, rfl, _, _, rfl, h⟩
  · exact .inr h
theorem RatT.o_mul (hk : 38 ≤ k := by decide) : OpR X (binaryOp .Mult) (l2 X.K CR rMul) := op2_or (op2_or (r := fun a b M Q => r2 sp_mul a b M Q ∨ rRepD a b M Q) (o_bin T.mul rfl (hr.mono hk) T.first) o_repD fun _ _ _ _ h => h) o_mulI fun a b M Q h => by
  unfold rMul at h; split at h
  · exact .inl (.inl ⟨_, _, rfl, rfl, _, _, rfl, h⟩)
  · exact .inl (.inr ⟨_, _, rfl, rfl, h⟩)
  · exact .inr h
theorem RatT.o_lt (hk : 38 ≤ k := by decide) : OpR X (compareOp .Lt) (l2 X.K CR rLtA) := op2_or (show OpR X (compareOp .Lt) _ from o_cmpR (op := .Lt) T.lt rfl (hr.mono hk)) _root_.DL.o_lt fun a b M Q h => by
  unfold rLtA at h; split at h
  · exact .inl ⟨_, _, rfl, rfl, _, _, rfl, h⟩
  · exact .inr h
theorem RatT.o_le (hk : 38 ≤ k := by decide) : OpR X (compareOp .LtE) (l2 X.K CR rLeA) := op2_or (show OpR X (compareOp .LtE) _ from o_cmpR (op := .LtE) T.le rfl (hr.mono hk)) _root_.DL.o_le fun a b M Q h => by
  unfold rLeA at h; split at h
  · exact .inl ⟨_, _, rfl, rfl, _, _, rfl, h⟩
  · exact .inr h
theorem RatT.o_gt (hk : 38 ≤ k := by decide) : OpR X (compareOp .Gt) (l2 X.K CR rGtA) := op2_or (show OpR X (compareOp .Gt) _ from o_cmpR (op := .Gt) T.gt rfl (hr.mono hk)) _root_.DL.o_gt fun a b M Q h => by
  unfold rGtA at h; split at h
  · exact .inl ⟨_, _, rfl, rfl, _, _, rfl, h⟩
  · exact .inr h
theorem RatT.o_ge (hk : 38 ≤ k := by decide) : OpR X (compareOp .GtE) (l2 X.K CR rGeA) := op2_or (show OpR X (compareOp .GtE) _ from o_cmpR (op := .GtE) T.ge rfl (hr.mono hk)) _root_.DL.o_ge fun a b M Q h => by
  unfold rGeA at h; split at h
  · exact .inl ⟨_, _, rfl, rfl, _, _, rfl, h⟩
  · exact .inr h
theorem RatT.o_neg (hk : 38 ≤ k := by decide) : UnR X (unaryOp .USub) (l1 X.K CR rNegA) := fun pins s σ H x v Q I rx hh => by
  obtain ⟨P, a, M, Qd, r1, g, q, k⟩ := hh
  unfold rNegA at q
  split at q
  · exact o_negR T.neg (hr.mono hk) pins s σ H x v Q I rx ⟨P, _, M, Qd, r1, g, ⟨_, rfl, _, rfl, q⟩, k⟩
  · exact o_negI pins s σ H x v Q I rx ⟨P, _, M, Qd, r1, g, q, k⟩
end
/-! ### isinstance(x, Ratio) -/
def IsRD : D → Mem → DK → Prop := fun d M Q => match d with
  | .rat _ => Q (.bl true) M
  | d => ∃ n, tyD d M = some n ∧ n ∈ tyNs ∧ Q (.bl false) M
theorem IsRD.cases {d : D} {M : Mem} {Q : DK} (h : IsRD d M Q) : (∃ q, d = .rat q ∧ Q (.bl true) M) ∨ ∃ n, tyD d M = some n ∧ n ∈ tyNs ∧ Q (.bl false) M := by
  unfold IsRD at h
  split at h
  · exact .inl ⟨_, rfl, h⟩
  · exact .inr h
def dIsR (w : DE) : DE := fun δ M Q => w δ M fun d M1 => IsRD d M1 Q
section
variable {X : Cx} {CR : Addr} {E : DXS} {W : WX} {pos p p2 : Pos}
theorem RatT0.d_isR {e : Expr} {w : DE} (T : RatT0 X.prog X.w X.K X.mg X.base CR) (hm : X.mg "isinstance" = none) (he : PD X (bs X CR E W) e w) (hg : Gl X "isinstance" := by rfl) (hg2 : Gl X "Ratio" := by rfl)
    (hs : starEach [e, .Name "Ratio" p2] X.env = (false, eval e X.env) :: starEach [.Name "Ratio" p2] X.env := by rfl) (hpl : (backTo pos (starEach [.Name "Ratio" p2] X.env)).any (·.1) = false := by rfl) :
    PD X (bs X CR E W) (.Call (.Name "isinstance" p) [e, .Name "Ratio" p2] [] pos) (dIsR w) := by
  refine (pe_callB call_isi hg hm (by decide +kernel) (pa_cons he (pa_cons (pe_glob (v := .ref CR) hg2 T.g rfl) pa_nil) hs) (he := hs) (hpl := hpl)).imp fun σ H Q h => ?_
  obtain ⟨P, δ, M, Qd, hS, g, x, w, k⟩ := h
  refine ⟨P, δ, M, _, hS, g, x, w, fun v H1 ⟨d, M1, z1, g1, r1, q⟩ => ?_⟩
  rcases q.cases with ⟨q0, rfl, q⟩ | ⟨n, hn, hm, q⟩
  · obtain ⟨a, dx, rfl, _, ea⟩ := r1
    exact ⟨.ref a, .ref CR, .ref CR, .ref CR, true, rfl, .own CR, .base (.ins ea T.cls T.isf.cc T.isf.cg T.isf.ct T.isf.cm), by simp [PySem.W.kitOne], k _ _ ⟨.bl true, M1, z1, g1, rfl, q⟩⟩
  · exact ⟨v, .ref CR, .type n, .ref CR, false, rfl, .own CR, tyD_ok g1 r1 hn, T.isf.no n hm, k _ _ ⟨.bl false, M1, z1, g1, rfl, q⟩⟩
/-! ### gcd -/
def rGcdD : DC := fun ds M Q => ∃ a b : Int, ds = [.int a, .int b] ∧ Q (.int ((Nat.gcd a.natAbs b.natAbs : Nat) : Int)) M
theorem d_gcd {x : Str} {e : Expr} {es : List Expr} {t : DA} (hm : X.mg x = some (.builtin "math.gcd")) (ha : PDA X (bs X CR E W) (e :: es) t) (hg : Gl X x := by rfl) (hdb : (x == ("__debug__" : Str)) = false := by decide)
    (he : starEach (e :: es) X.env = (false, eval e X.env) :: starEach es X.env := by rfl) (hpl : (backTo pos (starEach es X.env)).any (·.1) = false := by rfl) : PD X (bs X CR E W) (.Call (.Name x p) (e :: es) [] pos) (dCB rGcdD t) := by
  refine (pe_callBfun cr_gcd hg hm ha hdb he hpl).imp fun σ H Q h => ?_
  obtain ⟨P, δ, M, Qd, hS, g, x, w, k⟩ := h
  refine ⟨P, δ, M, _, hS, g, x, w, fun vs H1 ds M1 z1 g1 rs q => ?_⟩
  obtain ⟨a, b, rfl, q⟩ := q
  obtain ⟨v1, r1, rfl, h1, v2, r2, rfl, h2, h3⟩ := rs
  rw [show r2 = [] from h3, show v1 = .int _ from h1, show v2 = .int _ from h2]
  exact ⟨a, b, rfl, k _ _ ⟨.int _, M1, z1, g1, rfl, q⟩⟩
end
/-! ### sizes of products -/
theorem mulS {a b : Int} {n m : Nat} (ha : a.natAbs ≤ 2 ^ n) (hb : b.natAbs ≤ 2 ^ m) (hn : n < 60000000 := by decide) (hm : m < 60000000 := by decide) : IntMulOk a b := by
  have k : ∀ (x : Int) (i : Nat), x.natAbs ≤ 2 ^ i → i < 60000000 → Builtin.Int.intBits x ≤ 60000000 := fun x i hx hi => by
    refine Nat.le_trans (intBits_le_iff (m := i + 1).mpr (Nat.lt_of_le_of_lt hx (Nat.pow_lt_pow_right (by decide) (Nat.lt_succ_self i)))) ?_
    omega
  exact .of_le (k a n ha hn) (k b m hb hm) (by decide)
/-! ### facts of the head with a check of one's own -/
def obsC (ck : PySem.W.Frag → Bool) (fa : List He.Fa) (fn : List He.DefD) (K : PySem.W.Frag) : He.AlD := (ck K && (He.obsD fa fn K).1, (He.obsD fa fn K).2)
def obsCG (n : Nat) (ck : PySem.W.Frag → Bool) (fa : List He.Fa) (fn : List He.DefD) (g : Addr → Option Obj) : He.AlD := obsC ck fa fn (He.frG g (He.asD g n ++ [cStatics, sysModules]))
theorem obsC_ok {ck : PySem.W.Frag → Bool} {fa : List He.Fa} {fn : List He.DefD} {K : PySem.W.Frag} (e : obsC ck fa fn K = He.valD fn) : ck K = true ∧ He.SaysD fa fn K := by
  have e1 : (ck K && (He.obsD fa fn K).1) = true := congrArg (fun z : He.AlD => z.1) e
  have e2 : (obsC ck fa fn K).2 = (He.valD fn).2 := by rw [e]
  obtain ⟨a, b⟩ := He.ba e1
  exact ⟨a, Prod.ext b e2⟩
def hookC (n : Nat) (ck : PySem.W.Frag → Bool) (fa : List He.Fa) (fn : List He.DefD) : PySem.W.Hook where
  α := He.AlD
  obs s := obsCG n ck fa fn s.heap.get?
  val _ := He.valD fn
  says _ h := ∃ K : PySem.W.Frag, K.In h ∧ ck K = true ∧ He.SaysD fa fn K
  of _ _ e := ⟨_, He.frG_in, obsC_ok e⟩
  keeps _ _ _ := fun ⟨K, hK, c⟩ k => ⟨K, PySem.W.Frag.In.keeps hK k, c⟩
theorem obsCG_eq {n : Nat} {ck : PySem.W.Frag → Bool} {fa : List He.Fa} {fn : List He.DefD} {g : Addr → Option Obj} {s : Shared} (h : ∀ a, g a = s.heap.get? a) : obsCG n ck fa fn g = (hookC n ck fa fn).obs s := by
  have : g = s.heap.get? := funext h
  subst this; rfl
/-! ### x != y by the own == -/
section
open PySem.W
variable {prog : Program} {w : World} {A : Around} {E : Value → Shared → Prop} {s : Shared} {K : Frag} {x C L f : Addr} {h0 : Heap} {m : Str → Option Value} {ox : Obj} {od : Option Obj} {b tb : Value}
theorem ne_special (X : K.In s.heap) (I : InstAt s.heap x ox C od) (hn : findIn K (.ref C) "__ne__" = some (some (.builtin "object.__ne__"))) (hm : mroIn K C (.type "object") = some true) (hu : A.in1.units < cLine) {Q : Option Value → Shared → Prop}
    (h : wpAny (model prog w) A.in1 (callSpecialIfBound? (.ref x) "__eq__" [b]) (fun r s' => ∃ k, r = some (.bool k) ∧ Q (some (.bool (!k))) s') E s) : wpAny (model prog w) A (callSpecialIfBound? (.ref x) "__ne__" [b]) Q E s := by
  have S := PySem.F.slot_object_ne
  have inst : Looks (model prog w) s.heap (isInstance (.ref x) (.type "object")) true := I.type.andThen (looks_mroIn X hm)
  have call : wpAny (model prog w) A (call (.builtin "object.__ne__") [.ref x, b]) (fun v => Q (some v)) E s := by
    refine wpAny_call (codeAny_call_builtin S.plain PySem.F.cmpEntry_ne (check_slot PySem.F.cmpKind_ne PySem.F.cmpSplit_ne inst (PySem.F.cmpArgs_ne _ _) ?_))
    unfold Builtin.«object.__ne__»
    repeat (first | with_reducible refine wpAny_cRoomFor hu ?_ | with_reducible refine wpAny_mono h (fun r s' q => ?_) (fun _ _ z => z) | wp_step)
    obtain ⟨k, rfl, q⟩ := q
    repeat (first | with_reducible refine wpAny_truthy_bool ?_ | wp_step)
    exact q
  simp only [callSpecialIfBound?, bindSpecialIfBound?]
  refine wpAny_holding (wpAny_bind (wpAny_bind (wpAny_bind (I.type.here ((looks_findIn X hn).here ?_)))))
  refine wpAny_bind (wpAny_askSetting (wpAny_ite ?_))
  have fin : wpAny (model prog w) A (PySem.call (.builtin "object.__ne__") ([.ref x] ++ [b]) >>= fun v => pure (some v)) Q E s := wpAny_bind (wpAny_mono call (fun v s' h' => wpAny_pure h') fun _ _ h' => h')
  split
  · refine wpAny_bind ?_
    rw [S.bind]
    exact wpAny_pure (wpAny_pure (by exact fin))
  · refine wpAny_tryCatch (wpAny_bind ?_)
    rw [S.bind]
    exact wpAny_pure (wpAny_pure (by exact fin))
end
section
variable {X : Cx} {CR : Addr} {k : Nat}
def rNeA : D2 := fun a b M Q => match a with
  | .rat p => ∃ r, eqB p b = some r ∧ Q (.bl (!r)) M
  | a => rNeP a b M Q
theorem RatT.o_ne (T : RatT X.prog X.w X.K X.mg X.base CR) (hr : Room k X.A) (hk : 39 ≤ k := by decide) : OpR X (compareOp .NotEq) (l2 X.K CR rNeA) := by
  intro pins s σ H x y v u Q I rx ry ⟨P, a, b, M, Qd, ra, rb, g, h, kk⟩
  cases a with
  | rat p =>
    obtain ⟨r, hq, h⟩ := h
    obtain ⟨f, fd, F, hb, hs, hf⟩ := T.eq.ex
    have rs : Reps ⟨X.K, CR, P⟩ H M [.rat p, b] [x, y] := ⟨_, _, rfl, ra, _, _, rfl, rb, rfl⟩
    obtain ⟨tb, lb, nf⟩ := eqB_look T.isf I ry rb hq
    obtain ⟨a, dx, rfl, _, ha⟩ := ra
    obtain rfl : v = Value.ref a := rx
    obtain ⟨mA, J, _⟩ := ins_get I.hok ha
    obtain ⟨od, J, _⟩ := J.look
    obtain ⟨m, hF⟩ := I.fr
    have KX := I.kIn
    have hr3 : Room 38 X.A.in1 := (hr.mono hk).in1
    have e0 : Env0 X.prog X.w X.K X.mg X.base X.A.in1 X.stack s H := I.env0.in1
    have hsp : lSp X.K CR sp_eq [.ref a, y] H (fun v H' => v = .bl r ∧ Q (.bl (!r)) H') E0 := by
      refine lSp_of (Qd := fun d M' => d = .bl r ∧ Qd (.bl (!r)) M') g rs ⟨p, b, r, rfl, hq, rfl, h⟩ fun v H' ⟨d, M', z, g', r, e, q'⟩ => ?_
      subst e
      exact ⟨r, kk _ _ ⟨.bl _, M', z, g', rfl, q'⟩⟩
    have eqc : wpAny (model X.prog X.w) X.A.in1 (callSpecialIfBound? (.ref a) "__eq__" [u]) (fun r s' => ∃ k, r = some (.bool k) ∧ EP X pins σ Q (.bool (!k)) s') X.xe s := by
      refine PySem.W.ifBound_K KX J hs hf ?_
      refine wpAny_call (codeAny_mono (F.run X.A.in1 X.stack s H ⟨[.ref a, u], []⟩ [.ref a, u] [.ref a, y] _ E0 hr3 e0 (by simpa using hb s [.ref a, u] KX rfl) (.cons rfl (.cons ry .nil)) hsp) fun r s' hq => ?_)
      cases r with
      | error e => exact passL pins σ H s e s' I hq
      | ok fl =>
        cases fl with
        | ret w =>
          obtain ⟨z, H', I', rz, ez, q'⟩ := I.after hq
          subst ez
          obtain rfl : w = Value.bool _ := rz
          exact ⟨_, rfl, .bl _, H', I', rfl, q'⟩
        | next => exact False.elim hq
        | brk => exact False.elim hq
        | cont => exact False.elim hq
    show wpAny (model X.prog X.w) X.A (richCompare .NotEq (.ref a) u) (EP X pins σ Q) X.xe s
    have one : wpAny (model X.prog X.w) X.A (tryCompare (.ref a) "__ne__" u) (fun r s' => ∃ v, r = some v ∧ EP X pins σ Q v s') X.xe s := by
      unfold tryCompare
      refine wpAny_bind (ne_special KX J T.isf.ne T.isf.cm (hr.mono (show 1 ≤ k by omega)).in1.units0 (wpAny_mono eqc (fun r s' q => ?_) fun _ _ z => z))
      obtain ⟨j, rfl, q⟩ := q
      exact ⟨j, rfl, wpAny_pure ⟨_, rfl, q⟩⟩
    unfold richCompare
    simp only [oneThing_ref]
    refine wpAny_holding (wpAny_bind (wpAny_cRoomFor hr.units0 ?_))
    refine wpAny_bind (J.type.here (wpAny_bind (lb.here ?_)))
    split
    · rename_i q
      have e : PySem.W.subIn X.K tb (.ref CR) = some false := by
        rcases Bool.or_eq_true_iff.mp nf with e | e
        · rw [beq_iff_eq.mp e] at q; simp at q
        · exact beq_iff_eq.mp e
      refine wpAny_bind ((PySem.W.looks_subIn KX e).here ?_)
      simp only [Bool.false_eq_true, if_false]
      refine wpAny_bind (wpAny_mono one (fun r s' z => ?_) fun _ _ z => z)
      obtain ⟨v, rfl, hq⟩ := z
      exact wpAny_pure hq
    · refine wpAny_bind (wpAny_pure ?_)
      simp only [Bool.false_eq_true, if_false]
      refine wpAny_bind (wpAny_mono one (fun r s' z => ?_) fun _ _ z => z)
      obtain ⟨v, rfl, hq⟩ := z
      exact wpAny_pure hq
  | _ => exact o_neP hr.units pins s σ H x y v u Q I rx ry ⟨P, _, _, M, Qd, ra, rb, g, h, kk⟩
end
/-! ### the class from the head's facts -/
def inCls (st : Stmt) (j : Nat) : Stmt := match st with
  | .ClassDef (body := b) .. => b.getD j (.Pass ⟨0, 0, 0, 0⟩)
  | s => s
/-- nobody watches: a division may go by pylong -/
def seerCk (K : PySem.W.Frag) : Bool :=
  PySem.W.nsOkIn K cStatics && (He.eqO (PySem.W.nsIn K cStatics "sys.audit-hooks") (some none) && (He.eqO (PySem.W.nsIn K cStatics "sys.dict") (some none) && (PySem.W.nsOkIn K sysModules && (He.eqO (PySem.W.nsIn K sysModules "_pylong") (some none) &&
  (match PySem.W.nsIn K mainGlobals "__builtins__" with
  | some (some (.ref bm)) => (match K.lookup bm with
    | some ⟨.type c, some d, _, _⟩ => decide (c = "module") && decide (d = builtinsNs)
    | _ => false)
  | _ => false)))))
theorem seer_of {K : PySem.W.Frag} {mg : Str → Option Value} {base : Heap} (m : Mod K mg base) (c : seerCk K = true) : base.NoSeer := by
  obtain ⟨c1, c⟩ := He.ba c
  obtain ⟨c2, c⟩ := He.ba c
  obtain ⟨c3, c⟩ := He.ba c
  obtain ⟨c4, c⟩ := He.ba c
  obtain ⟨c5, c⟩ := He.ba c
  refine ⟨⟨_, .of_isNs (PySem.W.isNs_of_in m.kin c1), PySem.W.nsMap_none_of_in m.kin c1 (He.eqO_ok c2), PySem.W.nsMap_none_of_in m.kin c1 (He.eqO_ok c3)⟩, ⟨_, .of_isNs (PySem.W.isNs_of_in m.kin c4), PySem.W.nsMap_none_of_in m.kin c4 (He.eqO_ok c5)⟩, m.blt, ?_⟩
  split at c
  · rename_i bm e
    split at c
    · rename_i n d q z lk
      obtain ⟨d1, d2⟩ := He.ba c
      exact ⟨mg, bm, _, m.glob, PySem.W.mg_of m.kin m.glob e, m.kin _ _ lk, by rw [of_decide_eq_true d1], by rw [of_decide_eq_true d2]⟩
    · cases c
  · cases c
theorem pyR_of {X : Cx} (c : seerCk X.K = true) (pt : X.prog.given.tree = none) {k : Nat} (hr : Room k X.A) (hst : X.stack = X.env :: X.outer) (hg : X.env.scope.isGenerator = false) (hc : X.env.scope.isCoroutine = false) (hk : 35 ≤ k := by decide) : PyR X := fun pins σ H s I =>
  PylongRoom.of I.nolimit (by have := hr.dp; show X.A.depth + 100 < recursionLimit; omega) (SeerAt.of ((seer_of I.ok.mod c).keeps I.bk) pt (I.ok.frames.trans (congrArg some hst)) hg hc I.ok.blt I.ok.glob)
def ratCk0 (K : PySem.W.Frag) : Bool :=
  PySem.W.selfFirst K (He.ga K "Ratio") && (He.eqO (PySem.W.findIn K (.ref (He.ga K "Ratio")) "__class__") (some (some (.builtin "object.__class__"))) &&
  (He.eqO (PySem.W.specialIn K (.builtin "object.__class__") "__get__") (some (some (.builtin "getset_descriptor.__get__"))) && (decide (PySem.W.takesIn K (.builtin "object.__class__") = some true) &&
  (decide (PySem.W.mroIn K (He.ga K "Ratio") (.type "object") = some true) && (He.eqO (PySem.W.findIn K (.ref (He.ga K "Ratio")) "__ne__") (some (some (.builtin "object.__ne__"))) &&
  (tyNs.all (fun n => decide (PySem.W.kitOne K (.type n) (.ref (He.ga K "Ratio")) = some false) && decide (PySem.W.kitOne K (.ref (He.ga K "Ratio")) (.type n) = some false)) &&
  He.eqO (PySem.W.nsIn K mainGlobals "gcd") (some (some (.builtin "math.gcd")))))))))
def ratCk (K : PySem.W.Frag) : Bool := ratCk0 K && seerCk K
section
variable {P : Program} {w : World} {K : PySem.W.Frag} {mg : Str → Option Value} {base : Heap} {CR f : Addr} {fd : FuncData} {h : Heap}
theorem ratCk_seer (c : ratCk K = true) : seerCk K = true := (He.ba c).2
theorem ratCk_first (c : ratCk K = true) : PySem.W.selfFirst K (He.ga K "Ratio") = true := (He.ba (He.ba c).1).1
theorem ratCk_isf (c : ratCk K = true) : IsF K (He.ga K "Ratio") := by
  replace c := (He.ba c).1
  obtain ⟨_, c⟩ := He.ba c
  obtain ⟨c1, c⟩ := He.ba c
  obtain ⟨c2, c⟩ := He.ba c
  obtain ⟨c3, c⟩ := He.ba c
  obtain ⟨c4, c⟩ := He.ba c
  obtain ⟨c5, c⟩ := He.ba c
  obtain ⟨c6, c⟩ := He.ba c
  have c7 := List.all_eq_true.mp c6
  exact ⟨He.eqO_ok c1, He.eqO_ok c2, of_decide_eq_true c3, of_decide_eq_true c4, He.eqO_ok c5, fun n hn => of_decide_eq_true (He.ba (c7 n hn)).1, fun n hn => of_decide_eq_true (He.ba (c7 n hn)).2⟩
theorem ratCk_gcd (X : K.In h) (G : h.Ns mainGlobals mg) (c : ratCk K = true) : mg "gcd" = some (.builtin "math.gcd") := by
  replace c := (He.ba c).1
  obtain ⟨_, c⟩ := He.ba c
  obtain ⟨c1, c⟩ := He.ba c
  obtain ⟨c2, c⟩ := He.ba c
  obtain ⟨c3, c⟩ := He.ba c
  obtain ⟨c4, c⟩ := He.ba c
  obtain ⟨c5, c⟩ := He.ba c
  obtain ⟨c6, c⟩ := He.ba c
  exact PySem.W.mg_of X G (He.eqO_ok c)
theorem mkOk_of {x qual : Str} {st : Stmt} (F : FunD K x qual (defArgs st) (defBody st) (defScope st) [V.int 1] [] f fd) (mk : Mk K CR f) (ok : FnOk P w K mg base (L2.CX P w) 36 f fd ["self", "top", "bottom"] (lSp K CR (sp_init CR)))
    (h : ∀ (T : Addr) (kV doc pm : Value) (an : Option Addr) (cdv ct a b c d : Value), (∃ k, bindArgs (PySem.W.fnOf x qual (defArgs st) (defBody st) (defScope st) (.ref T) kV doc pm an cdv ct) ⟨[a, b, c], []⟩ = seqItems? (.ref T) >>= k ∧ k (some #[d]) = pure ((["self", "top", "bottom"] : List Str).zip [a, b, c])) ∧
      ∃ k, bindArgs (PySem.W.fnOf x qual (defArgs st) (defBody st) (defScope st) (.ref T) kV doc pm an cdv ct) ⟨[a, b], []⟩ = seqItems? (.ref T) >>= k ∧ k (some #[d]) = pure ((["self", "top", "bottom"] : List Str).zip [a, b, d])) : MkOk P w K mg base CR := by
  obtain ⟨ds, v0, b0⟩ := F.binds1 (ps := ["self", "top", "bottom"]) 3 1 (by simp) rfl (fun T kV doc pm an cdv ct us its h1 h2 => match us, its, h1, h2 with
    | [a, b, c], [d], _, _ => (h T kV doc pm an cdv ct a b c d).1)
  obtain ⟨es, v1, b1⟩ := F.binds1 (ps := ["self", "top", "bottom"]) 2 0 (by simp) rfl (fun T kV doc pm an cdv ct us its h1 h2 => match us, its, h1, h2 with
    | [a, b], [d], _, _ => (h T kV doc pm an cdv ct a b d d).2)
  cases v0
  match es, v1 with
  | [d1], v1 => exact ⟨f, fd, d1, mk, ok, b0, b1, v1⟩
theorem op2_of {x qual name : Str} {st : Stmt} {sp : DSp} (F : FunD K x qual (defArgs st) (defBody st) (defScope st) [] [] f fd) (m : Meth K CR name f) (ok : FnOk P w K mg base (L2.CX P w) 38 f fd ["self", "other"] (lSp K CR sp))
    (h : ∀ (kV doc pm : Value) (an : Option Addr) (cdv ct a b : Value), bindArgs (PySem.W.fnOf x qual (defArgs st) (defBody st) (defScope st) .none kV doc pm an cdv ct) ⟨[a, b], []⟩ = pure ((["self", "other"] : List Str).zip [a, b])) : Op2 P w K mg base CR name sp :=
  ⟨f, fd, ok, F.bindsN fun kV doc pm an cdv ct us hl => match us, hl with | [a, b], _ => h kV doc pm an cdv ct a b, m.at_, m.fn⟩
theorem op1_of {x qual name : Str} {st : Stmt} {sp : DSp} (F : FunD K x qual (defArgs st) (defBody st) (defScope st) [] [] f fd) (m : Meth K CR name f) (ok : FnOk P w K mg base (L2.CX P w) 38 f fd ["self"] (lSp K CR sp))
    (h : ∀ (kV doc pm : Value) (an : Option Addr) (cdv ct a : Value), bindArgs (PySem.W.fnOf x qual (defArgs st) (defBody st) (defScope st) .none kV doc pm an cdv ct) ⟨[a], []⟩ = pure ((["self"] : List Str).zip [a])) : Op1 P w K mg base CR name sp :=
  ⟨f, fd, ok, F.bindsN fun kV doc pm an cdv ct us hl => match us, hl with | [a], _ => h kV doc pm an cdv ct a, m.at_, m.fn⟩
end
section
variable {X : Cx} {CR : Addr} {E : DXS} {W : WX} {pos apos : Pos}
/-- x.bit_length() -/
def dBits (w : DE) : DE := fun δ M Q => w δ M fun d M1 => ∃ i : Int, d = .int i ∧ Q (.int (Builtin.Int.intBits i : Nat)) M1
theorem d_bits {o : Expr} {w : DE} (ho : PD X (bs X CR E W) o w) (hbase : attributeBase o "bit_length" X.env (eval o X.env) = eval o X.env := by rfl) (hline : (apos.endLine == pos.line) = true := by rfl) : PD X (bs X CR E W) (.Call (.Attribute o "bit_length" apos) [] [] pos) (dBits w) := by
  refine (pe_bits ho hbase hline).imp fun σ H Q h => ?_
  obtain ⟨P, δ, M, Qd, hS, g, x, w, k⟩ := h
  refine ⟨P, δ, M, _, hS, g, x, w, fun v H1 ⟨d, M1, z1, g1, r1, i, e, q⟩ => ?_⟩
  subst e
  rw [show v = .int i from r1]
  exact ⟨i, rfl, k _ _ ⟨.int _, M1, z1, g1, rfl, q⟩⟩
end
/-! ### abs(x) of an own instance -/
section
open PySem.W
variable {prog : Program} {w : World} {A : Around} {E : Value → Shared → Prop} {s : Shared} {K : Frag} {x C f : Addr} {ox : Obj} {od : Option Obj}
theorem abs_own {Q : Value → Shared → Prop} (X : K.In s.heap) (I : InstAt s.heap x ox C od) (hs : findIn K (.ref C) "__abs__" = some (some (.ref f))) (hf : isFn K (.ref f) = true)
    (h : wpAny (model prog w) A.in1 (PySem.call (.ref f) [.ref x]) Q E s) : wpAny (model prog w) A (PySem.call (.builtin "abs") [.ref x]) Q E s := by
  refine Calls.call_function_entry kind_abs plain_abs entry_abs (args_abs _) ?_
  unfold Builtin.«abs»
  refine wpAny_bind (m := oneArg "abs" _) (wpAny_pure ?_)
  refine wpAny_bind (m := callSpecial? (.ref x) (Str.ofString "__abs__")) (special_fn X I hs (beq_iff_eq.mp hf) (wpAny_mono h (fun r s' hr => ?_) fun _ _ y => y))
  exact wpAny_pure ⟨_, rfl, hr⟩
end
section
variable {X : Cx} {CR : Addr} {E : DXS} {W : WX} {pos p apos : Pos} {k : Nat}
def rAbsA : DC := fun ds M Q => match ds with
  | [.rat p] => Sm p ∧ Q (.rat p.abs) M
  | ds => rAbsI ds M Q
theorem RatT.c_abs (T : RatT X.prog X.w X.K X.mg X.base CR) (hr : Room k X.A) (hk : 39 ≤ k := by decide) : CallR X (.builtin "abs") (lC X.K CR rAbsA) := by
  intro pins s σ H xs us Q I rx ⟨P, ds, M, Qd, rs, g, h, kk⟩
  unfold rAbsA at h
  split at h
  · rename_i q
    obtain ⟨hs1, h⟩ := h
    obtain ⟨f, fd, F, hb, hs, hf⟩ := T.abs.ex
    have rs2 := rs
    obtain ⟨x, r0, rfl, ra, r1⟩ := rs
    obtain rfl : r0 = [] := r1
    obtain ⟨a, dx, rfl, _, ha⟩ := ra
    cases rx with
    | cons ru rn =>
      cases rn
      rename_i u
      obtain rfl : u = Value.ref a := ru
      obtain ⟨mA, J, _⟩ := ins_get I.hok ha
      obtain ⟨od, J, _⟩ := J.look
      refine abs_own I.kIn J hs hf ?_
      refine wpAny_call (codeAny_mono (F.run X.A.in1 X.stack s H ⟨[.ref a], []⟩ [.ref a] [.ref a] _ E0 (hr.mono hk).in1 I.env0.in1 (by simpa using hb s [.ref a] I.kIn rfl) (.cons rfl .nil) (lSp_of g rs2 ⟨q, rfl, hs1, h⟩ kk)) fun r s' hq => ?_)
      cases r with
      | error e => exact passL pins σ H s e s' I hq
      | ok fl =>
        cases fl with
        | ret w => exact I.after hq
        | next => exact False.elim hq
        | brk => exact False.elim hq
        | cont => exact False.elim hq
  · exact c_absI pins s σ H xs us Q I rx ⟨P, _, M, Qd, rs, g, h, kk⟩
/-! ### a method of a fraction -/
structure MethOk (P : Program) (w : World) (K : PySem.W.Frag) (mg : Str → Option Value) (base : Heap) (CR : Addr) (name : Str) (ps : List Str) (sp : DSp) : Prop where
  ex : ∃ f fd, FnOk P w K mg base (L2.CX P w) 38 f fd ps (lSp K CR sp) ∧ Binds K fd ps [] ∧ Meth K CR name f
def dMeth (sp : DSp) (wo : DE) (t : DA) : DE := fun δ M Q => wo δ M fun o M1 => ∃ q, o = .rat q ∧ t δ M1 fun ds M2 => sp (o :: ds) M2 Q noX
theorem d_meth {name : Str} {ps : List Str} {sp : DSp} {pl : Sem Bool} {o e : Expr} {es : List Expr} {wo : DE} {t : DA} (O : MethOk X.prog X.w X.K X.mg X.base CR name ps sp) (T : RatT X.prog X.w X.K X.mg X.base CR) (hr : Room k X.A) (ho : PD X (bs X CR E W) o wo) (ha : PDA X (bs X CR E W) (e :: es) t)
    (hn : ∀ q, (ratF q).lookup name = none := by intro _; rfl) (hk : 38 ≤ k := by decide)
    (hst : starEach (e :: es) X.env = (false, eval e X.env) :: starEach es X.env := by rfl) (hpl : (backTo pos (starEach es X.env)).any (·.1) = false := by rfl)
    (ht : eval (.Call (.Attribute o name apos) (e :: es) [] pos) X.env = (do
      let ov ← eval o X.env
      standAt apos.atName
      let (f, first) ← holding [ov] (getMethod ov name pl)
      callWith pos f first (backTo pos (starEach (e :: es) X.env)) (backToKw pos (keywordEach [] X.env))) := by rfl) : PD X (bs X CR E W) (.Call (.Attribute o name apos) (e :: es) [] pos) (dMeth sp wo t) := by
  obtain ⟨f, fd, F, hb, hm⟩ := O.ex
  refine (pe_meth ho T.cls hm F (hr.mono hk) hb .nil passL ha hst hpl ht).imp fun σ H Q h => ?_
  obtain ⟨P, δ, M, Qd, hS, g, x, w, kk⟩ := h
  refine ⟨P, δ, M, _, hS, g, x, w, fun v H1 ⟨d, M1, z1, g1, r1, q, ed, q1⟩ => ?_⟩
  subst ed
  have r1' := r1
  obtain ⟨a, dx, rfl, _, ea⟩ := r1
  refine ⟨a, dx, _, rfl, ea, hn q, P, δ, M1, _, hS.mono z1, g1, x.trans z1, q1, fun vs H2 ds M2 z2 g2 rs q2 => ?_⟩
  show lSp X.K CR sp (V.ref a :: (vs ++ [])) H2 Q E0
  rw [List.append_nil]
  exact lSp_of (ds := .rat q :: ds) g2 ⟨_, _, rfl, r1'.mono z2, rs⟩ q2 fun v H' l => kk v H' (l.trans (z1.trans z2))
def sp_over : DSp := fun ds M Q _ => ∃ p q, ds = [.rat p, .rat q] ∧ Sm p ∧ Sm q ∧ q ≠ 0 ∧ Q (.rat (p / q)) M
theorem meth_of {P : Program} {w : World} {K : PySem.W.Frag} {mg : Str → Option Value} {base : Heap} {CR f : Addr} {fd : FuncData} {x qual name : Str} {st : Stmt} {sp : DSp} {ps : List Str} (F : FunD K x qual (defArgs st) (defBody st) (defScope st) [] [] f fd) (m : Meth K CR name f) (ok : FnOk P w K mg base (L2.CX P w) 38 f fd ps (lSp K CR sp))
    (h : ∀ (kV doc pm : Value) (an : Option Addr) (cdv ct : Value) (us : List Value), us.length = ps.length → bindArgs (PySem.W.fnOf x qual (defArgs st) (defBody st) (defScope st) .none kV doc pm an cdv ct) ⟨us, []⟩ = pure (ps.zip us)) : MethOk P w K mg base CR name ps sp := ⟨f, fd, ok, F.bindsN h, m⟩
end
/-! ### errors that leave -/
theorem lfx_w {O : Own} {H M} {δ : DS0} {σ : L2.St} {E : DXS} {W : WX} (hS : RepS O H M δ σ) (x : XL O H M E W) : ∀ c d H', LfX O H M (fun C ns fs M' => E C ns fs δ M') c d H' → W c d σ H' := fun c d H' ⟨C, ns, fs, M', e, z, g, r, q⟩ => by
  exact x c d σ H' ⟨C, ns, fs, δ, M', e, z, g, hS.mono z, r, q⟩
theorem ErrD.mono {O : Own} {H M H' M'} {d : Option Addr} {ns : List Str} {fs : List D} (z : Fz O H M H' M') (h : ErrD O H M d ns fs) : ErrD O H' M' d ns fs := by
  rcases h with h | ⟨nn, dd, vs, e, f, eh, l, r⟩
  · exact .inl h
  · exact .inr ⟨nn, dd, vs, e, ⟨(z.st dd _ f eh).2, f.2⟩, (z.st dd _ f eh).1, l, r.mono z⟩
section
variable {X : Cx} {C : Addr} {bmB : List Value} {B newId initId : String}
/-- X(): an own error class without an __init__, called without arguments -/
theorem pmk_none {x : Str} {p pos : Pos} (F : ExcBaseFacts B newId initId bmB) (q : PySem.W.excIn X.K C bmB newId = true) (gC : X.mg x = some (.ref C)) (kC : PySem.W.keepIn X.K (.ref C) = true) (r : Raises X (.ref C)) (hg : Gl X x)
    (hdb : (x == ("__debug__" : Str)) = false := by decide) : PMk X (.Call (.Name x p) [] [] pos) (fun _ H Q => Q (.ref C) none H) := by
  intro pins s σ H Q I h
  refine wpAny_Call_Name_kw (ld_glob I hg gC ?_ hdb)
  refine PySem.W.callWith_K0 (first := []) I.kIn kC ?_
  obtain ⟨bm, N, nm, qn, bs, hdct, sn, sub, ab, col, dd, k0, k1, k2, k3, k5, mN, hC, hN, hni, T⟩ := exc_obj I.kIn q
  exact wpAny_call_exc_subT F T hC hN hni (fun h' e hm => mk_of I hm r h (I.hok.gone hm.new)) (Nat.zero_le _)
end
/-- what the text must hold of the error's class -/
structure ErrC (K : PySem.W.Frag) (mg : Str → Option Value) (x : Str) (Z : Addr) : Prop where
  q : PySem.W.excIn K Z He.veBase "ValueError.__new__" = true
  k : PySem.W.keepIn K (.ref Z) = true
  sub : PySem.W.subIn K (.ref Z) (.type "BaseException") = some true
  ty : PySem.W.typeIn K (.ref Z) = some (.type "type")
  g : mg x = some (.ref Z)
  self : PySem.W.exmOne K (.ref Z) (.ref Z) = some true
section
variable {X : Cx} {CR : Addr} {E : DXS} {W : WX} {pos p pos' : Pos}
def dRaise (Z : Addr) (E : DXS) : DSt := fun _ δ M => E Z [] [] δ M
theorem s_raise {x : Str} {Z : Addr} (c : ErrC X.K X.mg x Z) (tk : Takes X W) (hc : X.calm = true := by rfl) (hg : Gl X x := by rfl) (hdb : (x == ("__debug__" : Str)) = false := by decide) : PDS X (bs X CR E W) (.Raise (some (.Call (.Name x p) [] [] pos)) none pos') (dRaise Z E) := by
  refine (ps_raise hc tk (pmk_none PySem.F.excBase_ValueError c.q c.g c.k (raises_own c.sub c.ty) hg hdb)).imp fun Dn σ H h => ?_
  obtain ⟨P, δ, M, Dd, hS, g, x, w, k⟩ := h
  exact x (.ref Z) none σ H ⟨Z, [], [], δ, M, rfl, Fz.refl, g, hS, .inl ⟨rfl, rfl, rfl⟩, w⟩
/-- try: .. except Z: .. -/
def dTry (cat : Addr → Prop) (wb : DXS → DSt) (ws : DSt) : DSt := fun Dn δ M => wb (fun C ns fs δ' M' => cat C ∧ ws Dn δ' M') Dn δ M
theorem s_try {x : Str} {Z : Addr} {cat : Addr → Prop} {body suite : List Stmt} {b0 : Stmt} {np : Pos} {wb : DXS → DSt} {ws : DSt} (hcat : ∀ C, cat C → PySem.W.exmOne X.K (.ref C) (.ref Z) = some true) (hc : Names X x (.ref Z)) (tk : Takes X W)
    (hb : ∀ (E' : DXS) (W' : WX) (pn : List (Addr × Obj)) (xe : Value → Shared → Prop), Takes (X.tr pn xe) W' → PassesOwn (model X.prog X.w) X.A X.env xe → PDSs (X.tr pn xe) (bs X CR E' W') body (wb E'))
    (hsu : ∀ (a : Addr) (oe : Obj) (pn : List (Addr × Obj)), PDSs (X.suite a ((a, oe) :: pn)) (bs X CR noE noW) (b0 :: suite) ws)
    (hs : X.stack = X.env :: X.outer := by rfl) (hf : X.env.frame = some X.env.locals := by rfl) :
    PDS X (bs X CR E W) (.Try body [.ExceptHandler (some (.Name x np)) none (b0 :: suite) pos'] [] [] pos) (dTry cat wb ws) := by
  refine (ps_try_only (tb := fun W' Dn σ H => ∃ E', lS (bs X CR E' W') (wb E') Dn σ H) (ts := fun _ _ _ => lS (bs X CR noE noW) ws) (Wout := W) hs hf hc tk
    (fun W' pn xe tk' po => ⟨fun p s σ H Dn I ⟨E', q⟩ => (hb E' W' pn xe tk' po).run p s σ H Dn I q⟩) (fun a oe cls d pn _ _ => hsu a oe pn)).imp fun Dn σ H h => ?_
  obtain ⟨P, δ, M, Dd, hS, g, x, w, k⟩ := h
  refine ⟨fun C ns fs δ' M' => cat C ∧ ws Dd δ' M', P, δ, M, Dd, hS, g, ?_, w, k⟩
  rintro c d σ' H' ⟨C, ns, fs, δ', M', rfl, z, g', hS', er, hcc, hw⟩
  exact ⟨true, hcat C hcc, fun _ a ha => ⟨P, δ', M', Dd, hS', g', XL.no, hw, k.trans z⟩, fun e => by cases e⟩
end
/-! ### try: .. except Z as n: .. -/
section
variable {X : Cx} {CR : Addr} {E : DXS} {W : WX} {pos p p2 pos' : Pos}
def dTryAs (cat : Addr → Prop) (i : Nat) (wb : DXS → DSt) (ws : Addr → Addr → DSt) : DSt := fun Dn δ M => wb (fun C ns fs δ' M' => ns = [] ∧ cat C ∧ ∀ a, ws C a { nx := fun δ2 M2 => Dn.nx (δ2.set i none) M2, rt := Dn.rt, bk := fun δ2 M2 => Dn.bk (δ2.set i none) M2, ct := fun δ2 M2 => Dn.ct (δ2.set i none) M2 } (δ'.set i (some (.ref a))) M') Dn δ M
theorem s_tryAs {x n : Str} {Z : Addr} {i : Nat} {cat : Addr → Prop} {body suite : List Stmt} {b0 : Stmt} {np : Pos} {wb : DXS → DSt} {ws : Addr → Addr → DSt} (hcat : ∀ C, cat C → PySem.W.exmOne X.K (.ref C) (.ref Z) = some true) (hc : Names X x (.ref Z)) (tk : Takes X W) (hN : X.N.Nodup)
    (hb : ∀ (E' : DXS) (W' : WX) (pn : List (Addr × Obj)) (xe : Value → Shared → Prop), Takes (X.tr pn xe) W' → PassesOwn (model X.prog X.w) X.A X.env xe → PDSs (X.tr pn xe) (bs X CR E' W') body (wb E'))
    (hsu : ∀ (a : Addr) (oe : Obj) (C : Addr) (pn : List (Addr × Obj)), cat C → Zc (.ref C) none oe → (∃ vs, oe.data = .fields vs) → PDSs (X.suite a ((a, oe) :: pn)) (bs X CR noE noW) (b0 :: suite) (ws C a))
    (hi : X.N[i]? = some n := by rfl) (hln : X.env.kindOf n = some .local := by rfl) (hs : X.stack = X.env :: X.outer := by rfl) (hf : X.env.frame = some X.env.locals := by rfl) :
    PDS X (bs X CR E W) (.Try body [.ExceptHandler (some (.Name x np)) (some n) (b0 :: suite) pos'] [] [] pos) (dTryAs cat i wb ws) := by
  refine (ps_try_as (tb := fun W' Dn σ H => ∃ E', lS (bs X CR E' W') (wb E') Dn σ H) (ts := fun a cls d Dn σ H => ∃ C, cat C ∧ cls = .ref C ∧ d = none ∧ lS (bs X CR noE noW) (ws C a) Dn σ H) (Wout := W) hs hf hN hi hln hc tk
    (fun W' pn xe tk' po => ⟨fun p s σ H Dn I ⟨E', q⟩ => (hb E' W' pn xe tk' po).run p s σ H Dn I q⟩) (fun a oe cls d pn hz hv => ⟨fun p s σ H Dn I ⟨C, h1, h2, h3, q⟩ => by
      subst h2; subst h3
      exact (hsu a oe C pn h1 hz hv).run p s σ H Dn I q⟩)).imp fun Dn σ H h => ?_
  obtain ⟨P, δ, M, Dd, hS, g, x, w, k⟩ := h
  refine ⟨_, P, δ, M, Dd, hS, g, ?_, w, k⟩
  rintro c d σ' H' ⟨C, ns, fs, δ', M', rfl, z, g', hS', er, hns, hcc, hw⟩
  have hd : d = none := by
    rcases er with ⟨_, _, e⟩ | ⟨nn, _⟩
    · exact e
    · exact absurd hns nn
  have kt := k.trans z
  refine ⟨true, hcat C hcc, fun _ a ha => ⟨C, hcc, rfl, hd, P, _, M', _, hS'.set (d := .ref a) (v := .ref a) rfl, g', XL.no, hw a, ?_⟩, fun e => by cases e⟩
  exact ⟨fun σ H' ⟨δ2, M2, z2, g2, hS2, q⟩ => kt.nx _ H' ⟨_, M2, z2, g2, hS2.unset, q⟩, kt.rt, fun σ H' ⟨δ2, M2, z2, g2, hS2, q⟩ => kt.bk _ H' ⟨_, M2, z2, g2, hS2.unset, q⟩, fun σ H' ⟨δ2, M2, z2, g2, hS2, q⟩ => kt.ct _ H' ⟨_, M2, z2, g2, hS2.unset, q⟩⟩
/-- isinstance(e, c) of the caught error -/
def dIsE (w : DE) (a : Addr) (r : Bool) : DE := fun δ M Q => w δ M fun d M1 => d = .ref a ∧ Q (.bl r) M1
theorem d_isE {a D : Addr} {oe : Obj} {pn : List (Addr × Obj)} {e c : Expr} {w : DE} {cv : V} {u : Value} {r : Bool} (C : ExcC X.K D) (hz : Zc (.ref D) none oe) (hf : ∃ vs, oe.data = .fields vs) (hm : X.mg "isinstance" = none)
    (he : PD (X.suite a ((a, oe) :: pn)) (bs X CR noE noW) e w) (hcl : PE (X.suite a ((a, oe) :: pn)) c (tC cv)) (hu : ∀ u', RelV cv u' → u' = u) (hk : PySem.W.kitOne X.K (.ref D) u = some r) (hg : Gl X "isinstance" := by rfl)
    (hs : starEach [e, c] X.env = (false, eval e X.env) :: starEach [c] X.env := by rfl) (hs2 : starEach [c] X.env = (false, eval c X.env) :: starEach [] X.env := by rfl) (hpl : (backTo pos (starEach [c] X.env)).any (·.1) = false := by rfl) :
    PD (X.suite a ((a, oe) :: pn)) (bs X CR noE noW) (.Call (.Name "isinstance" p) [e, c] [] pos) (dIsE w a r) := by
  refine (pe_callB (call_isE C hz hf) hg hm (by decide +kernel) (pa_cons he (pa_cons hcl pa_nil hs2) hs) (he := hs) (hpl := hpl)).imp fun σ H Q h => ?_
  obtain ⟨P, δ, M, Qd, hS, g, x, w, k⟩ := h
  refine ⟨P, δ, M, _, hS, g, x, w, fun v H1 ⟨d, M1, z1, g1, r1, ed, q⟩ => ?_⟩
  subst ed
  rw [show v = .ref a from r1]
  exact ⟨cv, u, r, rfl, hu, hk, k _ _ ⟨.bl r, M1, z1, g1, rfl, q⟩⟩
end
structure ErrS (K : PySem.W.Frag) (mg : Str → Option Value) (Z S : Addr) : Prop where
  ec : ExcC K Z
  g : mg "SurveyError" = some (.ref S)
  s : PySem.W.kitOne K (.ref Z) (.ref S) = some true
  v : PySem.W.kitOne K (.ref Z) (.type "ValueError") = some true
  vf : mg "ValueError" = none
def zCk (K : PySem.W.Frag) : Bool :=
  He.eqO (PySem.W.findIn K (.ref (He.ga K "ZeroDivisor")) "__getattribute__") (some (some (.builtin "BaseException.__getattribute__"))) && (He.eqO (PySem.W.findIn K (.ref (He.ga K "ZeroDivisor")) "__getattr__") (some none) &&
  (decide (PySem.W.subIn K (.ref (He.ga K "ZeroDivisor")) (.type "BaseException") = some true) && (PySem.W.hasDictIn K (He.ga K "ZeroDivisor") && (He.eqO (PySem.W.findIn K (.ref (He.ga K "ZeroDivisor")) "__class__") (some (some (.builtin "object.__class__"))) &&
  (He.eqO (PySem.W.specialIn K (.builtin "object.__class__") "__get__") (some (some (.builtin "getset_descriptor.__get__"))) && (decide (PySem.W.takesIn K (.builtin "object.__class__") = some true) && (decide (PySem.W.mroIn K (He.ga K "ZeroDivisor") (.type "object") = some true) &&
  (He.eqO (PySem.W.nsIn K mainGlobals "SurveyError") (some (some (.ref (He.ga K "SurveyError")))) && (decide (PySem.W.kitOne K (.ref (He.ga K "ZeroDivisor")) (.ref (He.ga K "SurveyError")) = some true) &&
  (decide (PySem.W.kitOne K (.ref (He.ga K "ZeroDivisor")) (.type "ValueError") = some true) && He.eqO (PySem.W.nsIn K mainGlobals "ValueError") (some none)))))))))))
theorem zCk_ok {K : PySem.W.Frag} {h : Heap} {mg : Str → Option Value} (X : K.In h) (G : h.Ns mainGlobals mg) (c : zCk K = true) : ErrS K mg (He.ga K "ZeroDivisor") (He.ga K "SurveyError") := by
  obtain ⟨c1, c⟩ := He.ba c
  obtain ⟨c2, c⟩ := He.ba c
  obtain ⟨c3, c⟩ := He.ba c
  obtain ⟨c4, c⟩ := He.ba c
  obtain ⟨c5, c⟩ := He.ba c
  obtain ⟨c6, c⟩ := He.ba c
  obtain ⟨c7, c⟩ := He.ba c
  obtain ⟨c8, c⟩ := He.ba c
  obtain ⟨c9, c⟩ := He.ba c
  obtain ⟨c10, c⟩ := He.ba c
  obtain ⟨c11, c12⟩ := He.ba c
  exact ⟨⟨He.eqO_ok c1, He.eqO_ok c2, of_decide_eq_true c3, c4, He.eqO_ok c5, He.eqO_ok c6, of_decide_eq_true c7, of_decide_eq_true c8⟩, PySem.W.mg_of X G (He.eqO_ok c9), of_decide_eq_true c10, of_decide_eq_true c11, PySem.W.mg_none_of X G (He.eqO_ok c12)⟩
/-! ### a def that may raise -/
section
variable {P : Program} {w : World} {K : PySem.W.Frag} {mg : Str → Option Value} {base : Heap} {CR : Addr}
theorem okDX {x qual : Str} {st : Stmt} {f : Addr} {fd : FuncData} {N ps : List Str} {k : Nat} {sp : DSp} {wd : DXS → DSt} {dvs : List V} {kws : List (Str × V)} (F : FunD K x qual (defArgs st) (defBody st) (defScope st) dvs kws f fd) (S : FnScope N ps (defScope st))
    (der : ∀ (cdv : Value) (A : Around) (outer : List Env) (s : Shared) (H : Hp) (E : XK) (E' : DXS) (W : WX), Room k (A.deeper (envOfC qual (defScope st) s.heap.objs.size f cdv)) → Takes (cxOf (L2.CX P w) P w K mg base N qual (defScope st) f cdv A outer s H E) W →
      PDSs (cxOf (L2.CX P w) P w K mg base N qual (defScope st) f cdv A outer s H E) ⟨K, CR, E', W⟩ (defBody st) (wd E'))
    (len : ∀ ds M Q E, sp ds M Q E → ds.length = ps.length)
    (rd : ∀ ds M Q E, sp ds M Q E → wd (fun C ns fs _ M' => E C ns fs M') { nx := fun _ M' => Q .non M', rt := Q } (startD N.length ds) M) : FnOk P w K mg base (L2.CX P w) (k + 1) f fd ps (lSp K CR sp) := by
  refine F.ok S (fun vs H Q E h => ?_) (fun cdv A outer s H vs Q E hr h => ?_)
  · obtain ⟨P, ds, M, Qd, Ed, r, g, h, _⟩ := h
    rw [← r.length]
    exact len _ _ _ _ h
  · obtain ⟨P', ds, M, Qd, Ed, r, g, h, k1, k2⟩ := h
    refine ⟨lS ⟨K, CR, fun C ns fs _ M' => Ed C ns fs M', fun c d _ H' => E c d H'⟩ (wd fun C ns fs _ M' => Ed C ns fs M'), der cdv A outer s H E _ _ hr (takes_of rfl rfl rfl rfl), ?_⟩
    exact ⟨P', _, M, _, reps_start r, g, fun c d σ' H' ⟨C, ns, fs, δ', M', e, z, g', _, er, q⟩ => k2 c d H' ⟨C, ns, fs, M', e, z, g', er, q⟩, rd ds M Qd Ed h, ⟨fun σ H' ⟨δ', M', z, g', _, q⟩ => k1 .non H' ⟨.non, M', z, g', rfl, q⟩, k1, fun _ _ ⟨_, _, _, _, _, q⟩ => q.elim, fun _ _ ⟨_, _, _, _, _, q⟩ => q.elim⟩⟩
end
/-! ### Ratio(..) that may raise -/
def sp_initX (CR Z : Addr) : DSp := fun ds M Q Ex => ∃ (p : Addr) (a b : Int), ds = [.ref p, .int a, .int b] ∧ M p = some (.ins CR [] []) ∧ (b = 0 → Ex Z [] [] M) ∧
  (b ≠ 0 → szB b ∧ Q .non (mput M p (.ins CR ["top", "bottom"] [.int (Rat.divInt a b).num, .int (Rat.divInt a b).den])))
def MkXD (Z : Addr) : List D → Mem → DK → DX → Prop := fun ds M Q Ex => match ds with
  | [.int a] => Q (.rat (a : Rat)) M
  | [.int a, .int b] => (b = 0 → Ex Z [] [] M) ∧ (b ≠ 0 → szB b ∧ Q (.rat (Rat.divInt a b)) M)
  | _ => False
def dMkX (Z : Addr) (E : DXS) (t : DA) : DE := fun δ M Q => t δ M fun ds M1 => MkXD Z ds M1 Q fun C ns fs M' => E C ns fs δ M'
structure MkOkX (P : Program) (w : World) (K : PySem.W.Frag) (mg : Str → Option Value) (base : Heap) (CR Z : Addr) : Prop where
  ex : ∃ f fd d1, Mk K CR f ∧ FnOk P w K mg base (L2.CX P w) 36 f fd ["self", "top", "bottom"] (lSp K CR (sp_initX CR Z)) ∧ Binds K fd ["self", "top", "bottom"] [] ∧ Binds K fd ["self", "top", "bottom"] [d1] ∧ Vals [V.int 1] [d1]
theorem MkXD.cases {Z : Addr} {ds : List D} {M : Mem} {Q : DK} {Ex : DX} (h : MkXD Z ds M Q Ex) : ∃ (a b : Int), (ds = [.int a, .int b] ∨ (ds = [.int a] ∧ b = 1)) ∧ (b = 0 → Ex Z [] [] M) ∧ (b ≠ 0 → szB b ∧ Q (.rat (Rat.divInt a b)) M) := by
  unfold MkXD at h
  split at h
  · exact ⟨_, 1, .inr ⟨rfl, rfl⟩, fun e => absurd e (by decide), fun _ => ⟨trivial, by rw [q_int]; exact h⟩⟩
  · exact ⟨_, _, .inl rfl, h⟩
  · exact h.elim
section
variable {X : Cx} {CR Z : Addr} {E : DXS} {W : WX} {pos p apos : Pos} {e : Expr} {es : List Expr} {t : DA}
theorem run_makeS {CX : CXT} {k : Nat} {f C : Addr} {fd : FuncData} {ps : List Str} {sp : Sp} {dvs : List V} {ds : List Value} {Ex : XK} {pins : List (Addr × Obj)} {σ : L2.St} {H : Hp} {s : Shared} {Q : VK} {us : List Value} {vs : List V} (M : Mk X.K C f) (F : FnOk X.prog X.w X.K X.mg X.base CX k f fd ps sp) (hr : Room (k + 1) X.A)
    (hb : Binds X.K fd ps ds) (hd : Vals dvs ds) (hx : PassesAt CX X σ Ex) (I : Inv X pins σ H s) (r : Vals vs us)
    (h : ∀ x dx, H x = none → H dx = none → dx ≠ x → sp (.ref x :: (vs ++ dvs)) (upd (upd H dx (.own x)) x (.ins C dx [])) (fun v H2 => v = .non ∧ Q (.ref x) H2) Ex) :
    (wpAny (model X.prog X.w) X.A (call (.ref C) us) (EP X pins σ Q) X.xe s) := by
  have hz := h (s.heap.objs.size + 1) s.heap.objs.size (I.hok.fresh (Nat.le_succ _)) (I.hok.fresh (Nat.le_refl _)) (Nat.ne_of_lt (Nat.lt_succ_self _))
  have J2 := Inv.made (C := C) I
  have r2 : Vals (V.ref (s.heap.objs.size + 1) :: (vs ++ dvs)) (Value.ref (s.heap.objs.size + 1) :: (us ++ ds)) := (.cons rfl (r.append hd))
  have hl : (Value.ref (s.heap.objs.size + 1) :: us ++ ds).length = ps.length := by
    rw [← F.len _ _ _ _ hz]; exact r2.length.symm
  refine wpAny_call (make_map (f := f) I.kIn M.makes M.init (beq_iff_eq.mp M.fn) (codeAny_mono
    (F.run _ X.stack _ _ ⟨Value.ref (s.heap.objs.size + 1) :: us, []⟩ (Value.ref (s.heap.objs.size + 1) :: (us ++ ds)) _ _ Ex (hr.make C us []) (J2.env0.make C us []) (hb _ (Value.ref (s.heap.objs.size + 1) :: us) J2.kIn hl) r2 hz) fun r s' hw' => ?_))
  cases r with
  | error e => exact hx pins _ _ e s' J2 hw'
  | ok fl =>
    cases fl with
    | ret u =>
      obtain ⟨v, H', I3, rv, ev, q3⟩ := J2.after hw'
      subst ev
      exact ⟨rv, V.ref (s.heap.objs.size + 1), H', I3, rfl, q3⟩
    | next => exact False.elim hw'
    | brk => exact False.elim hw'
    | cont => exact False.elim hw'
theorem make_endX {P : Addr → Prop} {H M} {Q : VK} {Ex : XK} {Qd : DK} {Ed : DX} {vs dvs : List V} {a b : Int} (g : Good ⟨X.K, CR, P⟩ H M) (rs : Reps ⟨X.K, CR, P⟩ H M [.int a, .int b] (vs ++ dvs)) (h0 : b = 0 → Ed Z [] [] M) (h1 : b ≠ 0 → szB b ∧ Qd (.rat (Rat.divInt a b)) M)
    (k : ∀ v H', LfV ⟨X.K, CR, P⟩ H M Qd v H' → Q v H') (kx : ∀ c d H', LfX ⟨X.K, CR, P⟩ H M Ed c d H' → Ex c d H') : ∀ x dx, H x = none → H dx = none → dx ≠ x →
      lSp X.K CR (sp_initX CR Z) (.ref x :: (vs ++ dvs)) (upd (upd H dx (.own x)) x (.ins CR dx [])) (fun v H2 => v = .non ∧ Q (.ref x) H2) Ex := by
  intro x dx hx hd hne
  have z1 : Fz ⟨X.K, CR, P⟩ H M (upd H dx (.own x)) M := fz_new g hd
  have g1 : Good ⟨X.K, CR, P⟩ (upd H dx (.own x)) M := good_new g hd
  have hx1 : upd H dx (.own x) x = none := by rw [upd_ne (Ne.symm hne)]; exact hx
  have z2 : Fz ⟨X.K, CR, P⟩ (upd H dx (.own x)) M (upd (upd H dx (.own x)) x (.ins CR dx [])) (mput M x (.ins CR [] [])) := fz_newM g1 hx1
  have fx := g.none hx
  have g2 : Good ⟨X.K, CR, P⟩ (upd (upd H dx (.own x)) x (.ins CR dx [])) (mput M x (.ins CR [] [])) := good_put g1 fx.2 z2 ⟨dx, [], upd_same, rfl, rfl⟩
  refine ⟨P, .ref x :: [.int a, .int b], mput M x (.ins CR [] []), fun d M2 => d = .non ∧ M2 = mput M x (.ins CR ["top", "bottom"] [.int (Rat.divInt a b).num, .int (Rat.divInt a b).den]) ∧ Qd (.rat (Rat.divInt a b)) M, fun C ns fs M2 => M2 = mput M x (.ins CR [] []) ∧ Ed C ns fs M, ⟨_, _, rfl, rfl, (rs.mono z1).mono z2⟩, g2,
    ⟨x, a, b, rfl, mput_same, fun e => ⟨rfl, h0 e⟩, fun e => ⟨(h1 e).1, rfl, by rw [mput_mput], (h1 e).2⟩⟩, ?_, ?_⟩
  · rintro v H' ⟨d, M2, z, g3, r, rfl, rfl, q⟩
    refine ⟨r, k _ _ ⟨.rat (Rat.divInt a b), mdel _ x, ((z1.trans z2).trans z).trans fz_del, good_del g3, ?_, by rw [mdel_mput fx.1]; exact q⟩⟩
    obtain ⟨dx', ws, e1, l1, rw1⟩ := g3.at_ x _ mput_same
    obtain ⟨v1, r1, rfl, h1, v2, r2, rfl, h2, h3⟩ := rw1
    rw [show r2 = [] from h3, show v1 = .int _ from h1, show v2 = .int _ from h2] at e1
    exact ⟨x, dx', rfl, ⟨mdel_same, fx.2⟩, e1⟩
  · rintro c d H' ⟨C, ns, fs, M2, e, z, g3, er, rfl, q⟩
    refine kx c d H' ⟨C, ns, fs, mdel _ x, e, ((z1.trans z2).trans z).trans fz_del, good_del g3, er.mono fz_del, by rw [mdel_mput fx.1]; exact q⟩
theorem MkOkX.d_mkX {x : Str} (T : MkOkX X.prog X.w X.K X.mg X.base CR Z) (hm : X.mg x = some (.ref CR)) (hr : Room 37 X.A) (tk : Takes X W) (ha : PDA X (bs X CR E W) (e :: es) t) (hg : Gl X x := by rfl)
    (hdb : (x == ("__debug__" : Str)) = false := by decide) (he : starEach (e :: es) X.env = (false, eval e X.env) :: starEach es X.env := by rfl) (hpl : (backTo pos (starEach es X.env)).any (·.1) = false := by rfl) : PD X (bs X CR E W) (.Call (.Name x p) (e :: es) [] pos) (dMkX Z E t) := by
  obtain ⟨f, fd, d1, mk, F, b0, b1, v1⟩ := T.ex
  refine ⟨fun pins s σ H Q I h => ?_⟩
  refine wpAny_Call_Name_kw (ld_glob I hg hm ?_ hdb)
  refine PySem.W.callWith_K (h₀ := X.base) I.ok.mod.kin mk.kp (thn (ha.run pos pins s σ H (fun vs H1 => ∃ (P : Addr → Prop) (δ : DS0) (ds : List D) (M1 : Mem) (Qd : DK), RepS ⟨X.K, CR, P⟩ H1 M1 δ σ ∧ XL ⟨X.K, CR, P⟩ H1 M1 E W ∧ Good ⟨X.K, CR, P⟩ H1 M1 ∧ Reps ⟨X.K, CR, P⟩ H1 M1 ds vs ∧ MkXD Z ds M1 Qd (fun C ns fs M' => E C ns fs δ M') ∧ ∀ v H', LfV ⟨X.K, CR, P⟩ H1 M1 Qd v H' → Q v H') I ?_) fun us s1 ⟨vs, H1, I1, r, q⟩ => ⟨I1.kIn, ?_⟩) he hpl
  · obtain ⟨P, δ, M, Qd, hS, g, x, w, k⟩ := h
    exact ⟨P, δ, M, _, hS, g, x, w, fun vs H1 ds M1 z1 g1 rs q => ⟨P, δ, ds, M1, Qd, hS.mono z1, x.trans z1, g1, rs, q, fun v H' l => k v H' (l.trans z1)⟩⟩
  · obtain ⟨P, δ, ds, M1, Qd, hS1, x1, g1, rs, q, k⟩ := q
    obtain ⟨a, b, rfl | ⟨rfl, rfl⟩, h0, h1⟩ := q.cases
    · exact run_makeS mk F hr b0 .nil (passAt tk σ) I1 r (make_endX (vs := vs) (dvs := []) g1 (by rw [List.append_nil]; exact rs) h0 h1 k (lfx_w hS1 x1))
    · exact run_makeS mk F hr b1 v1 (passAt tk σ) I1 r (make_endX (vs := vs) (dvs := [V.int 1]) g1 (rs.append (Reps.one (d := .int 1) rfl)) h0 h1 k (lfx_w hS1 x1))
/-! ### a method of a fraction that may raise -/
def dMethX (sp : DSp) (E : DXS) (wo : DE) (t : DA) : DE := fun δ M Q => wo δ M fun o M1 => ∃ q, o = .rat q ∧ t δ M1 fun ds M2 => sp (o :: ds) M2 Q fun C ns fs M' => E C ns fs δ M'
theorem d_methX {name : Str} {ps : List Str} {sp : DSp} {pl : Sem Bool} {k : Nat} {o : Expr} {wo : DE} (O : MethOk X.prog X.w X.K X.mg X.base CR name ps sp) (T : RatT X.prog X.w X.K X.mg X.base CR) (hr : Room k X.A) (tk : Takes X W) (ho : PD X (bs X CR E W) o wo) (ha : PDA X (bs X CR E W) (e :: es) t)
    (hn : ∀ q, (ratF q).lookup name = none := by intro _; rfl) (hk : 38 ≤ k := by decide)
    (hst : starEach (e :: es) X.env = (false, eval e X.env) :: starEach es X.env := by rfl) (hpl : (backTo pos (starEach es X.env)).any (·.1) = false := by rfl)
    (ht : eval (.Call (.Attribute o name apos) (e :: es) [] pos) X.env = (do
      let ov ← eval o X.env
      standAt apos.atName
      let (f, first) ← holding [ov] (getMethod ov name pl)
      callWith pos f first (backTo pos (starEach (e :: es) X.env)) (backToKw pos (keywordEach [] X.env))) := by rfl) : PD X (bs X CR E W) (.Call (.Attribute o name apos) (e :: es) [] pos) (dMethX sp E wo t) := by
  obtain ⟨f, fd, F, hb, hm⟩ := O.ex
  refine ⟨fun pins s σ H Q I h => ?_⟩
  obtain ⟨P, δ, M, Qd, hS, g, x, w, kk⟩ := h
  refine PySem.W.methodCall_KW (pl := pl) (thn (ho.run pins s σ H (fun v H' => LfV ⟨X.K, CR, P⟩ H M _ v H') I ⟨P, δ, M, _, hS, g, x, w, fun _ _ l => l⟩) fun u s1 ⟨y, H1, I1, ry, d, M1, z1, g1, r1, q, ed, q1⟩ => ?_) ht
  subst ed
  have r1' := r1
  obtain ⟨a, dx, rfl, _, ea⟩ := r1
  obtain rfl : u = Value.ref a := ry
  refine getmeth_ok I1 ea T.cls hm (hn q) ?_
  refine PySem.W.callWith_K (first := [.ref a]) (h₀ := X.base) I1.ok.mod.kin hm.kp (thn (ha.run pos pins s1 σ H1 (fun vs H2 => ∃ ds M2, Fz ⟨X.K, CR, P⟩ H1 M1 H2 M2 ∧ Good ⟨X.K, CR, P⟩ H2 M2 ∧ Reps ⟨X.K, CR, P⟩ H2 M2 ds vs ∧ sp (.rat q :: ds) M2 Qd fun C ns fs M' => E C ns fs δ M') I1 ⟨P, δ, M1, _, hS.mono z1, g1, x.trans z1, q1, fun vs H2 ds M2 z2 g2 rs q2 => ⟨ds, M2, z2, g2, rs, q2⟩⟩) fun us s2 ⟨vs, H2, I2, r, ds, M2, z2, g2, rs, q2⟩ => ⟨I2.kIn, ?_⟩) hst hpl
  refine run_fnS (E := fun σ c d H' => W c d σ H') (us := .ref a :: us) (vs := .ref a :: vs) F (hr.mono hk) hb (passAt tk σ) I2 (.cons rfl r) ?_
  exact ⟨P, .rat q :: ds, M2, Qd, _, ⟨_, _, rfl, r1'.mono z2, rs⟩, g2, q2, fun v H' l => kk v H' (l.trans (z1.trans z2)), lfx_w ((hS.mono z1).mono z2) (x.trans (z1.trans z2))⟩
end
def sp_overX (Z : Addr) : DSp := fun ds M Q Ex => ∃ p q, ds = [.rat p, .rat q] ∧ Sm p ∧ Sm q ∧ (q = 0 → Ex Z [] [] M) ∧ (q ≠ 0 → Q (.rat (p / q)) M)
/-- what is known of the fractions' error -/
structure RatX (P : Program) (w : World) (K : PySem.W.Frag) (mg : Str → Option Value) (base : Heap) (CR Z : Addr) : Prop where
  z : ErrC K mg "ZeroDivisor" Z
  ini : MkOkX P w K mg base CR Z
theorem mkOkX_of {P : Program} {w : World} {K : PySem.W.Frag} {mg : Str → Option Value} {base : Heap} {CR Z f : Addr} {fd : FuncData} {x qual : Str} {st : Stmt} (F : FunD K x qual (defArgs st) (defBody st) (defScope st) [V.int 1] [] f fd) (mk : Mk K CR f) (ok : FnOk P w K mg base (L2.CX P w) 36 f fd ["self", "top", "bottom"] (lSp K CR (sp_initX CR Z)))
    (h : ∀ (T : Addr) (kV doc pm : Value) (an : Option Addr) (cdv ct a b c d : Value), (∃ k, bindArgs (PySem.W.fnOf x qual (defArgs st) (defBody st) (defScope st) (.ref T) kV doc pm an cdv ct) ⟨[a, b, c], []⟩ = seqItems? (.ref T) >>= k ∧ k (some #[d]) = pure ((["self", "top", "bottom"] : List Str).zip [a, b, c])) ∧
      ∃ k, bindArgs (PySem.W.fnOf x qual (defArgs st) (defBody st) (defScope st) (.ref T) kV doc pm an cdv ct) ⟨[a, b], []⟩ = seqItems? (.ref T) >>= k ∧ k (some #[d]) = pure ((["self", "top", "bottom"] : List Str).zip [a, b, d])) : MkOkX P w K mg base CR Z := by
  obtain ⟨ds, v0, b0⟩ := F.binds1 (ps := ["self", "top", "bottom"]) 3 1 (by simp) rfl (fun T kV doc pm an cdv ct us its h1 h2 => match us, its, h1, h2 with
    | [a, b, c], [d], _, _ => (h T kV doc pm an cdv ct a b c d).1)
  obtain ⟨es, v1, b1⟩ := F.binds1 (ps := ["self", "top", "bottom"]) 2 0 (by simp) rfl (fun T kV doc pm an cdv ct us its h1 h2 => match us, its, h1, h2 with
    | [a, b], [d], _, _ => (h T kV doc pm an cdv ct a b d d).2)
  cases v0
  match es, v1 with
  | [d1], v1 => exact ⟨f, fd, d1, mk, ok, b0, b1, v1⟩
open PySem PySem.SeqAt
open MeetsSeq MeetsSeq2 MeetsSeq3 SeqRoads2
/-! ### == and != of tuples, whatever the answer -/
section
variable {prog : Program} {w : World} {A : Around} {R : Result → Shared → Prop}
/-- the answer: all pairs equal and as many items -/
def tupAns (c : Nat → Bool) (m n : Nat) : Bool := (List.range (min m n)).all c && m == n
theorem tup_eqB (l b : Addr) (items items2 : Array Value) (n n2 : Nat) (dd dd2 : Option Addr) (sl sl2 : Array (Option Value)) (c : Nat → Bool) (I : Nat → Shared → Prop)
    (turn : ∀ i (h1 : i < items.size) (h2 : i < items2.size) s, I i s → wpAny (model prog w) A.in1 (eqBool items[i] items2[i]) (fun r s' => r = c i ∧ I (i + 1) s') (fun e s' => R (.error e) s') s)
    (fin : ∀ i s, I i s → R (.ok (.ret (.bool (tupAns c items.size items2.size)))) s) {s : Shared} (hl1 : s.heap.get? l = some { cls := .type "tuple", dict := dd, data := .seq items n, slots := sl }) (hb1 : s.heap.get? b = some { cls := .type "tuple", dict := dd2, data := .seq items2 n2, slots := sl2 }) (h : I 0 s) :
    wpAny (model prog w) A.in1 (Builtin.«tuple.__eq__» ⟨[.ref l, .ref b], []⟩) (GQ.FinOf prog w A R) (fun e s' => R (.error e) s') s := by
  have f2 := AutoSeq1.sub_tuple_tuple
  have hZ : (items.toList.zip items2.toList).length = min items.size items2.size := by simp
  have h0 := h
  obtain ⟨hp, g, d, tk, os⟩ := s
  wp_walk using AutoSeq1.wpAny_loadPart' hl1, AutoSeq1.wpAny_loadPart' hb1, wpAny_forIn_list _ (fun rest b s' => ∃ i, I i s' ∧ b.1 = none ∧ rest = (items.toList.zip items2.toList).drop i ∧ i ≤ min items.size items2.size ∧ (List.range i).all c = true) _
  case turn =>
    rintro ⟨y, x⟩ rest b s' ⟨i, hI, hb', hz, hi, hall⟩
    have hlt : i < (items.toList.zip items2.toList).length := by
      rcases Nat.lt_or_ge i (items.toList.zip items2.toList).length with h' | h'
      · exact h'
      · rw [List.drop_of_length_le h'] at hz; cases hz
    have hm : i < min items.size items2.size := hZ ▸ hlt
    have h1 : i < items.size := by omega
    have h2 : i < items2.size := by omega
    rw [List.drop_eq_getElem_cons hlt] at hz
    injection hz with hyx hrest
    obtain rfl : y = items[i] := by have := congrArg Prod.fst hyx; simpa using this
    obtain rfl : x = items2[i] := by have := congrArg Prod.snd hyx; simpa using this
    refine wpAny_bind (wpAny_mono (turn i h1 h2 s' hI) (fun r s2 q => ?_) fun _ _ z => z)
    obtain ⟨hr, hI2⟩ := q
    subst hr
    cases hc : c i with
    | true =>
      have all2 : (List.range (i + 1)).all c = true := by rw [List.range_succ, List.all_append, hall]; simp [hc]
      wp_walk
      exact ⟨i + 1, hI2, rfl, hrest, by omega, all2⟩
    | false =>
      have no : tupAns c items.size items2.size = false := by
        unfold tupAns
        have : (List.range (min items.size items2.size)).all c = false := by
          rw [List.all_eq_false]
          exact ⟨i, List.mem_range.mpr hm, by rw [hc]; exact Bool.false_ne_true⟩
        rw [this]; rfl
      have q := fin (i + 1) s2 hI2
      rw [no] at q
      wp_walk
      exact q
  case fin =>
    rintro ⟨b1, b2⟩ s' ⟨i, hI, hb', hz, hi, hall⟩
    simp only at hb'
    subst hb'
    have hge : min items.size items2.size ≤ i := by
      rcases Nat.lt_or_ge i (items.toList.zip items2.toList).length with h' | h'
      · rw [List.drop_eq_getElem_cons h'] at hz; cases hz
      · exact hZ ▸ h'
    have hi' : i = min items.size items2.size := by omega
    have q := fin i s' hI
    unfold tupAns at q
    rw [← hi', hall] at q
    wp_walk
    simpa [Builtin.Tuple.tupleCompareSizes, bne] using q
  case h =>
    exact ⟨0, h0, rfl, rfl, Nat.zero_le _, rfl⟩
theorem tup_neB (l b : Addr) (items items2 : Array Value) (n n2 : Nat) (dd dd2 : Option Addr) (sl sl2 : Array (Option Value)) (c : Nat → Bool) (I : Nat → Shared → Prop)
    (turn : ∀ i (h1 : i < items.size) (h2 : i < items2.size) s, I i s → wpAny (model prog w) A.in1 (eqBool items[i] items2[i]) (fun r s' => r = c i ∧ I (i + 1) s') (fun e s' => R (.error e) s') s)
    (fin : ∀ i s, I i s → R (.ok (.ret (.bool (!tupAns c items.size items2.size)))) s) {s : Shared} (hl1 : s.heap.get? l = some { cls := .type "tuple", dict := dd, data := .seq items n, slots := sl }) (hb1 : s.heap.get? b = some { cls := .type "tuple", dict := dd2, data := .seq items2 n2, slots := sl2 }) (h : I 0 s) :
    wpAny (model prog w) A.in1 (Builtin.«tuple.__ne__» ⟨[.ref l, .ref b], []⟩) (GQ.FinOf prog w A R) (fun e s' => R (.error e) s') s := by
  have f2 := AutoSeq1.sub_tuple_tuple
  have hZ : (items.toList.zip items2.toList).length = min items.size items2.size := by simp
  have h0 := h
  obtain ⟨hp, g, d, tk, os⟩ := s
  wp_walk using AutoSeq1.wpAny_loadPart' hl1, AutoSeq1.wpAny_loadPart' hb1, wpAny_forIn_list _ (fun rest b s' => ∃ i, I i s' ∧ b.1 = none ∧ rest = (items.toList.zip items2.toList).drop i ∧ i ≤ min items.size items2.size ∧ (List.range i).all c = true) _
  case turn =>
    rintro ⟨y, x⟩ rest b s' ⟨i, hI, hb', hz, hi, hall⟩
    have hlt : i < (items.toList.zip items2.toList).length := by
      rcases Nat.lt_or_ge i (items.toList.zip items2.toList).length with h' | h'
      · exact h'
      · rw [List.drop_of_length_le h'] at hz; cases hz
    have hm : i < min items.size items2.size := hZ ▸ hlt
    have h1 : i < items.size := by omega
    have h2 : i < items2.size := by omega
    rw [List.drop_eq_getElem_cons hlt] at hz
    injection hz with hyx hrest
    obtain rfl : y = items[i] := by have := congrArg Prod.fst hyx; simpa using this
    obtain rfl : x = items2[i] := by have := congrArg Prod.snd hyx; simpa using this
    refine wpAny_bind (wpAny_mono (turn i h1 h2 s' hI) (fun r s2 q => ?_) fun _ _ z => z)
    obtain ⟨hr, hI2⟩ := q
    subst hr
    cases hc : c i with
    | true =>
      have all2 : (List.range (i + 1)).all c = true := by rw [List.range_succ, List.all_append, hall]; simp [hc]
      wp_walk
      exact ⟨i + 1, hI2, rfl, hrest, by omega, all2⟩
    | false =>
      have no : tupAns c items.size items2.size = false := by
        unfold tupAns
        have : (List.range (min items.size items2.size)).all c = false := by
          rw [List.all_eq_false]
          exact ⟨i, List.mem_range.mpr hm, by rw [hc]; exact Bool.false_ne_true⟩
        rw [this]; rfl
      have q := fin (i + 1) s2 hI2
      rw [no] at q
      wp_walk
      exact q
  case fin =>
    rintro ⟨b1, b2⟩ s' ⟨i, hI, hb', hz, hi, hall⟩
    simp only at hb'
    subst hb'
    have hge : min items.size items2.size ≤ i := by
      rcases Nat.lt_or_ge i (items.toList.zip items2.toList).length with h' | h'
      · rw [List.drop_eq_getElem_cons h'] at hz; cases hz
      · exact hZ ▸ h'
    have hi' : i = min items.size items2.size := by omega
    have q := fin i s' hI
    unfold tupAns at q
    rw [← hi', hall] at q
    wp_walk
    simpa [Builtin.Tuple.tupleCompareSizes, bne] using q
  case h =>
    exact ⟨0, h0, rfl, rfl, Nat.zero_le _, rfl⟩
end
section
open PySem.Spec PyProof.Rows L2
/-- answers of == that are known of data -/
abbrev Ans := D → D → Option Bool
def ansR : Ans := fun a b => match a, b with
  | .rat p, .rat q => some (decide (p = q))
  | _, _ => none
/-- item by item -/
def ansTs (f : Ans) : List D → List D → Option (List Bool)
  | x :: xs, y :: ys => (f x y).bind fun r => (ansTs f xs ys).map fun rs => r :: rs
  | _, _ => some []
def ansT (f : Ans) : Ans := fun a b => match a, b with
  | .tup xs, .tup ys => (ansTs f xs ys).map fun rs => rs.all id && xs.length == ys.length
  | _, _ => none
variable {X : Cx} {CR : Addr}
/-- inside a built-in: == of two values that stand for data -/
def EqOk (X : Cx) (CR : Addr) (k : Nat) (f : Ans) : Prop :=
  ∀ (A : Around) (pins : List (Addr × Obj)) (s : Shared) (σ : L2.St) (H : Hp) (P : Addr → Prop) (M : Mem) (a b : D) (x y : V) (u v : Value) (r : Bool), Sub X k A → Inv X pins σ H s → RelV x u → RelV y v → Good ⟨X.K, CR, P⟩ H M → Rep ⟨X.K, CR, P⟩ H M a x → Rep ⟨X.K, CR, P⟩ H M b y → f a b = some r →
    wpAny (model X.prog X.w) A (eqBool u v) (fun r' s' => r' = r ∧ ∃ H', Inv X pins σ H' s' ∧ Fz ⟨X.K, CR, P⟩ H M H' M ∧ Good ⟨X.K, CR, P⟩ H' M) X.xe s
theorem rep_rat_inj {O : Own} {H M} {p q : Rat} {x : V} (h1 : Rep O H M (.rat p) x) (h2 : Rep O H M (.rat q) x) : p = q := by
  obtain ⟨a, dx, rfl, _, e1⟩ := h1
  obtain ⟨b, dy, e, _, e2⟩ := h2
  cases e
  rw [e1] at e2
  injection e2 with e2
  injection e2 with _ _ e3
  unfold ratF at e3
  simp only [List.cons.injEq, Prod.mk.injEq, V.int.injEq, and_true, true_and] at e3
  exact (q_eq p q).mpr e3
theorem eqOk_rat (T : RatT X.prog X.w X.K X.mg X.base CR) : EqOk X CR 38 ansR := by
  intro A pins s σ H P M a b x y u v r sb I ru rv g ra rb h
  obtain ⟨p, q, rfl, rfl, hr⟩ : ∃ p q, a = .rat p ∧ b = .rat q ∧ decide (p = q) = r := by
    unfold ansR at h
    split at h
    · exact ⟨_, _, rfl, rfl, by injection h⟩
    · cases h
  obtain ⟨f, fd, F, hb, hs, hf⟩ := T.eq.ex
  have rs : Reps ⟨X.K, CR, P⟩ H M [.rat p, .rat q] [x, y] := ⟨_, _, rfl, ra, _, _, rfl, rb, rfl⟩
  obtain ⟨tb, lb, nf⟩ := eqB_look (d := .rat q) (p := p) (r := decide (p = q)) T.isf I rv rb rfl
  have ra' := ra
  have rb' := rb
  obtain ⟨a, dx, rfl, _, ha⟩ := ra
  obtain ⟨b, dy, rfl, fb, hb'⟩ := rb
  obtain rfl : u = Value.ref a := ru
  obtain rfl : v = Value.ref b := rv
  obtain ⟨mA, J, _⟩ := ins_get I.hok ha
  obtain ⟨od, J, _⟩ := J.look
  obtain ⟨m, hF⟩ := I.fr
  by_cases hab : a = b
  · subst hab
    have e : p = q := rep_rat_inj ra' rb'
    exact SeqAt.EqAt.same (A := A) (s := s) (.ref a) X.prog X.w X.xe _ ⟨by rw [← hr, decide_eq_true e], H, I, Fz.refl, g⟩
  · refine GQ.eqBool_refG hab ?_
    refine PySem.W.cmp_K (op := .Eq) sb.room.units0 hF I.ok.mod.kin J lb nf hs hf ?_
    have e0 : Env0 X.prog X.w X.K X.mg X.base A X.stack s H := by
      have e := I.env0
      exact ⟨by rw [sb.fr]; exact e.frames, e.mod, e.bs, e.bsz, e.funs, e.frf, e.hok, e.bare⟩
    have hsp : lSp X.K CR sp_eq [.ref a, .ref b] H (fun v H' => v = .bl r ∧ Fz ⟨X.K, CR, P⟩ H M H' M ∧ Good ⟨X.K, CR, P⟩ H' M) E0 := by
      refine lSp_of (Qd := fun d M' => d = .bl r ∧ M' = M) g rs ⟨p, .rat q, r, rfl, by rw [← hr]; rfl, rfl, rfl⟩ fun v H' ⟨d, M', z, g', rr, e, em⟩ => ?_
      subst e; subst em
      exact ⟨rr, z, g'⟩
    refine wpAny_call (codeAny_mono (F.run A X.stack s H ⟨[.ref a, .ref b], []⟩ [.ref a, .ref b] [.ref a, .ref b] _ E0 sb.room e0 (by simpa using hb s [.ref a, .ref b] I.kIn rfl) (.cons rfl (.cons rfl .nil)) hsp) fun r' s' hq => ?_)
    cases r' with
    | error e => exact passL pins σ H s e s' I hq
    | ok fl =>
      cases fl with
      | ret w =>
        obtain ⟨z, H', I', rz, ez, q1, q2⟩ := I.after hq
        subst ez
        obtain rfl : w = Value.bool _ := rz
        exact ⟨r, rfl, rfl, H', I', q1, q2⟩
      | next => exact False.elim hq
      | brk => exact False.elim hq
      | cont => exact False.elim hq
/-- one value that stands for both: the answer is True -/
def AnsRefl (f : Ans) : Prop := ∀ (O : Own) (H : Hp) (M : Mem) (d e : D) (x : V) (r : Bool), Rep O H M d x → Rep O H M e x → f d e = some r → r = true
theorem refl_rat : AnsRefl ansR := fun O H M d e x r h1 h2 h => by
  unfold ansR at h
  split at h
  · have := rep_rat_inj h1 h2
    injection h with h
    rw [← h, decide_eq_true this]
  · cases h
theorem ansTs_get {f : Ans} : ∀ {xs ys : List D} {rs : List Bool}, ansTs f xs ys = some rs → rs.length = min xs.length ys.length ∧ ∀ (i : Nat) (a b : D), xs[i]? = some a → ys[i]? = some b → f a b = some (rs.getD i false)
  | [], ys, rs, h => by
    simp [ansTs] at h; subst h
    exact ⟨by simp, fun i a b e _ => by simp at e⟩
  | x :: xs, [], rs, h => by
    simp [ansTs] at h; subst h
    exact ⟨by simp, fun i a b _ e => by simp at e⟩
  | x :: xs, y :: ys, rs, h => by
    unfold ansTs at h
    obtain ⟨r, e1, h⟩ := Option.bind_eq_some_iff.mp h
    obtain ⟨rs', e2, rfl⟩ := Option.map_eq_some_iff.mp h
    obtain ⟨l, g⟩ := ansTs_get e2
    refine ⟨by simp only [List.length_cons]; omega, fun i a b h1 h2 => ?_⟩
    cases i with
    | zero => simp at h1 h2; subst h1; subst h2; simpa using e1
    | succ i => simpa using g i a b (by simpa using h1) (by simpa using h2)
theorem all_range (rs : List Bool) : (List.range rs.length).all (fun i => rs.getD i false) = rs.all id := by
  rw [Bool.eq_iff_iff, List.all_eq_true, List.all_eq_true]
  constructor
  · intro h x hx
    obtain ⟨i, hi, rfl⟩ := List.getElem_of_mem hx
    have := h i (List.mem_range.mpr hi)
    simpa [List.getD_eq_getElem?_getD, List.getElem?_eq_getElem hi] using this
  · intro h i hi
    have hi' := List.mem_range.mp hi
    have := h rs[i] (List.getElem_mem hi')
    simpa [List.getD_eq_getElem?_getD, List.getElem?_eq_getElem hi'] using this
theorem ansT_cases {f : Ans} {a b : D} {r : Bool} (h : ansT f a b = some r) : ∃ xs ys rs, a = .tup xs ∧ b = .tup ys ∧ ansTs f xs ys = some rs ∧ r = (rs.all id && xs.length == ys.length) := by
  unfold ansT at h
  split at h
  · obtain ⟨rs, e, h⟩ := Option.map_eq_some_iff.mp h
    exact ⟨_, _, rs, rfl, rfl, e, h.symm⟩
  · cases h
theorem refl_tup {f : Ans} (hf : AnsRefl f) : AnsRefl (ansT f) := fun O H M d e x r h1 h2 h => by
  obtain ⟨xs, ys, rs, rfl, rfl, e, rfl⟩ := ansT_cases h
  obtain ⟨a, vs, rfl, f1, r1⟩ := h1
  obtain ⟨b, ws, eb, f2, r2⟩ := h2
  cases eb
  have : vs = ws := by
    obtain ⟨_, o1, _, e1⟩ := f1
    obtain ⟨_, o2, _, e2⟩ := f2
    rw [e2] at e1
    injection e1 with e1; injection e1 with _ e1; injection e1 with e1; exact e1.symm
  subst this
  obtain ⟨l, g⟩ := ansTs_get e
  have hl : xs.length = ys.length := by rw [r1.length, r2.length]
  rw [hl, beq_self_eq_true, Bool.and_true, ← all_range, List.all_eq_true]
  intro i hi
  have hi' := List.mem_range.mp hi
  have hx : i < xs.length := by omega
  have hy : i < ys.length := by omega
  obtain ⟨v, ev, rv⟩ := r1.get (List.getElem?_eq_getElem hx)
  obtain ⟨w, ew, rw'⟩ := r2.get (List.getElem?_eq_getElem hy)
  rw [ev] at ew; cases ew
  exact hf O H M _ _ v _ rv rw' (g i _ _ (List.getElem?_eq_getElem hx) (List.getElem?_eq_getElem hy))
/-- what the loop over the pairs keeps -/
def TupI (X : Cx) (CR : Addr) (P : Addr → Prop) (pins : List (Addr × Obj)) (σ : L2.St) (H : Hp) (M : Mem) (_ : Nat) (s' : Shared) : Prop := ∃ H', Inv X pins σ H' s' ∧ Fz ⟨X.K, CR, P⟩ H M H' M ∧ Good ⟨X.K, CR, P⟩ H' M
theorem tup_turn {k : Nat} {f : Ans} (hf : EqOk X CR k f) {A : Around} {pins : List (Addr × Obj)} {σ : L2.St} {H : Hp} {P : Addr → Prop} {M : Mem} {xs ys : List D} {rs : List Bool} {vs ws : List V} {its its2 : List Value} (sb : Sub X (k + 1) A)
    (e : ansTs f xs ys = some rs) (r1 : Reps ⟨X.K, CR, P⟩ H M xs vs) (r2 : Reps ⟨X.K, CR, P⟩ H M ys ws) (v1 : Vals vs its) (v2 : Vals ws its2) (i : Nat) (h1 : i < its.toArray.size) (h2 : i < its2.toArray.size) (s' : Shared) (l : TupI X CR P pins σ H M i s') :
    wpAny (model X.prog X.w) A.in1 (eqBool its.toArray[i] its2.toArray[i]) (fun r s2 => r = rs.getD i false ∧ TupI X CR P pins σ H M (i + 1) s2) X.xe s' := by
  obtain ⟨H1, I1, z1, g1⟩ := l
  have k1 : i < its.length := by simpa using h1
  have k2 : i < its2.length := by simpa using h2
  have x1 : i < xs.length := by rw [r1.length, v1.length]; exact k1
  have x2 : i < ys.length := by rw [r2.length, v2.length]; exact k2
  obtain ⟨v, ev, rv⟩ := r1.get (List.getElem?_eq_getElem x1)
  obtain ⟨w, ew, rw'⟩ := r2.get (List.getElem?_eq_getElem x2)
  obtain ⟨u, eu, ru⟩ := v1.get ev
  obtain ⟨u2, eu2, ru2⟩ := v2.get ew
  rw [List.getElem?_eq_getElem k1] at eu
  rw [List.getElem?_eq_getElem k2] at eu2
  have a1 : its.toArray[i] = u := by simpa using Option.some.inj eu
  have a2 : its2.toArray[i] = u2 := by simpa using Option.some.inj eu2
  rw [a1, a2]
  refine wpAny_mono (hf A.in1 pins s' σ H1 P M _ _ v w u u2 _ sb.in1 I1 ru ru2 g1 (rv.mono z1) (rw'.mono z1) ((ansTs_get e).2 i _ _ (List.getElem?_eq_getElem x1) (List.getElem?_eq_getElem x2))) (fun r s2 q => ?_) fun _ _ z => z
  obtain ⟨hr, H2, I2, z2, g2⟩ := q
  exact ⟨hr, H2, I2, z1.trans z2, g2⟩
theorem tupAns_eq {f : Ans} {xs ys : List D} {rs : List Bool} {m n : Nat} (e : ansTs f xs ys = some rs) (h1 : m = xs.length) (h2 : n = ys.length) : tupAns (fun i => rs.getD i false) m n = (rs.all id && xs.length == ys.length) := by
  unfold tupAns
  rw [h1, h2, ← (ansTs_get e).1, all_range]
theorem rcT {k : Nat} {f : Ans} (hf : EqOk X CR k f) {A : Around} {pins : List (Addr × Obj)} {s : Shared} {σ : L2.St} {H : Hp} {P : Addr → Prop} {M : Mem} {xs ys : List D} {rs : List Bool} {vs ws : List V} {a b : Addr} (sb : Sub X (k + 1) A) (I : Inv X pins σ H s) (g : Good ⟨X.K, CR, P⟩ H M)
    (fa : FT ⟨X.K, CR, P⟩ H M a vs) (fb : FT ⟨X.K, CR, P⟩ H M b ws) (r1 : Reps ⟨X.K, CR, P⟩ H M xs vs) (r2 : Reps ⟨X.K, CR, P⟩ H M ys ws) (e : ansTs f xs ys = some rs) :
    wpAny (model X.prog X.w) A (richCompare .Eq (.ref a) (.ref b)) (fun v s' => v = .bool (rs.all id && xs.length == ys.length) ∧ TupI X CR P pins σ H M 0 s') X.xe s := by
  obtain ⟨its, v1, e1, _⟩ := I.tuple fa.sq
  obtain ⟨its2, v2, e2, _⟩ := I.tuple fb.sq
  have l1 : its.toArray.size = xs.length := by rw [List.size_toArray, ← v1.length, r1.length]
  have l2 : its2.toArray.size = ys.length := by rw [List.size_toArray, ← v2.length, r2.length]
  obtain ⟨⟨cls, dd, data, sl⟩, ho, hc, n, hd⟩ := id e1
  obtain ⟨⟨cls2, dd2, data2, sl2⟩, ho2, hc2, n2, hd2⟩ := id e2
  simp only at hc hd hc2 hd2
  subst hc hd hc2 hd2
  refine wpAny_richCompare_same_room (op := .Eq) ⟨_, ho, rfl⟩ ⟨_, ho2, rfl⟩ PySem.F.slot_tuple_eq (GQ.call_here PySem.F.slot_tuple_eq ⟨_, ho, rfl⟩ PySem.F.entry_tuple_eq (PySem.F.args_tuple_eq_2 _ _) ?_) sb.room.units0
  refine tup_eqB (R := wants (fun v s' => v ≠ .notImplemented ∧ (v = .bool (rs.all id && xs.length == ys.length) ∧ TupI X CR P pins σ H M 0 s')) X.xe) a b its.toArray its2.toArray n n2 dd dd2 sl sl2 (fun i => rs.getD i false) (TupI X CR P pins σ H M) (fun i h1 h2 s' q => tup_turn hf sb e r1 r2 v1 v2 i h1 h2 s' q) (fun i s' q => ?_) ho ho2 ⟨H, I, Fz.refl, g⟩
  exact ⟨fun x => (nomatch x), by rw [tupAns_eq e l1 l2], q⟩
theorem rcTn {k : Nat} {f : Ans} (hf : EqOk X CR k f) {A : Around} {pins : List (Addr × Obj)} {s : Shared} {σ : L2.St} {H : Hp} {P : Addr → Prop} {M : Mem} {xs ys : List D} {rs : List Bool} {vs ws : List V} {a b : Addr} (sb : Sub X (k + 1) A) (I : Inv X pins σ H s) (g : Good ⟨X.K, CR, P⟩ H M)
    (fa : FT ⟨X.K, CR, P⟩ H M a vs) (fb : FT ⟨X.K, CR, P⟩ H M b ws) (r1 : Reps ⟨X.K, CR, P⟩ H M xs vs) (r2 : Reps ⟨X.K, CR, P⟩ H M ys ws) (e : ansTs f xs ys = some rs) :
    wpAny (model X.prog X.w) A (richCompare .NotEq (.ref a) (.ref b)) (fun v s' => v = .bool (!(rs.all id && xs.length == ys.length)) ∧ TupI X CR P pins σ H M 0 s') X.xe s := by
  obtain ⟨its, v1, e1, _⟩ := I.tuple fa.sq
  obtain ⟨its2, v2, e2, _⟩ := I.tuple fb.sq
  have l1 : its.toArray.size = xs.length := by rw [List.size_toArray, ← v1.length, r1.length]
  have l2 : its2.toArray.size = ys.length := by rw [List.size_toArray, ← v2.length, r2.length]
  obtain ⟨⟨cls, dd, data, sl⟩, ho, hc, n, hd⟩ := id e1
  obtain ⟨⟨cls2, dd2, data2, sl2⟩, ho2, hc2, n2, hd2⟩ := id e2
  simp only at hc hd hc2 hd2
  subst hc hd hc2 hd2
  refine wpAny_richCompare_same_room (op := .NotEq) ⟨_, ho, rfl⟩ ⟨_, ho2, rfl⟩ PySem.F.slot_tuple_ne (GQ.call_here PySem.F.slot_tuple_ne ⟨_, ho, rfl⟩ PySem.F.entry_tuple_ne (PySem.F.args_tuple_ne_2 _ _) ?_) sb.room.units0
  refine tup_neB (R := wants (fun v s' => v ≠ .notImplemented ∧ (v = .bool (!(rs.all id && xs.length == ys.length)) ∧ TupI X CR P pins σ H M 0 s')) X.xe) a b its.toArray its2.toArray n n2 dd dd2 sl sl2 (fun i => rs.getD i false) (TupI X CR P pins σ H M) (fun i h1 h2 s' q => tup_turn hf sb e r1 r2 v1 v2 i h1 h2 s' q) (fun i s' q => ?_) ho ho2 ⟨H, I, Fz.refl, g⟩
  exact ⟨fun x => (nomatch x), by rw [tupAns_eq e l1 l2], q⟩
theorem eqOk_tup {k : Nat} {f : Ans} (hf : EqOk X CR k f) (hr : AnsRefl f) : EqOk X CR (k + 1) (ansT f) := by
  intro A pins s σ H P M a b x y u v r sb I ru rv g ra rb h
  have ra' := ra
  have rb' := rb
  obtain ⟨xs, ys, rs, rfl, rfl, e, er⟩ := ansT_cases h
  obtain ⟨a, vs, rfl, fa, r1⟩ := ra
  obtain ⟨b, ws, rfl, fb, r2⟩ := rb
  obtain rfl : u = Value.ref a := ru
  obtain rfl : v = Value.ref b := rv
  by_cases hab : a = b
  · subst hab
    exact SeqAt.EqAt.same (A := A) (s := s) (.ref a) X.prog X.w X.xe _ ⟨(refl_tup hr _ _ _ _ _ _ _ ra' rb' h).symm, H, I, Fz.refl, g⟩
  · refine GQ.eqBool_refG hab (wpAny_mono (rcT hf sb I g fa fb r1 r2 e) (fun v s' q => ?_) fun _ _ z => z)
    obtain ⟨hv, q⟩ := q
    exact ⟨r, by rw [hv, er], rfl, q⟩
/-- == and != of tuples -/
def rEqT (f : Ans) : D2 := fun a b M Q => ∃ r, ansT f a b = some r ∧ Q (.bl r) M
def rNeT (f : Ans) : D2 := fun a b M Q => ∃ r, ansT f a b = some r ∧ Q (.bl (!r)) M
theorem o_eqT {k : Nat} {f : Ans} (hf : EqOk X CR k f) (hr : Room (k + 1) X.A) : OpR X (compareOp .Eq) (l2 X.K CR (rEqT f)) := by
  intro pins s σ H x y v u Q I rx ry ⟨P, a, b, M, Qd, ra, rb, g, ⟨r, h, q⟩, kk⟩
  obtain ⟨xs, ys, rs, rfl, rfl, e, er⟩ := ansT_cases h
  obtain ⟨a, vs, rfl, fa, r1⟩ := ra
  obtain ⟨b, ws, rfl, fb, r2⟩ := rb
  obtain rfl : v = Value.ref a := rx
  obtain rfl : u = Value.ref b := ry
  show wpAny (model X.prog X.w) X.A (richCompare .Eq (.ref a) (.ref b)) (EP X pins σ Q) X.xe s
  refine wpAny_mono (rcT hf ⟨hr, rfl⟩ I g fa fb r1 r2 e) (fun v s' q2 => ?_) fun _ _ z => z
  obtain ⟨hv, H', I', z, g'⟩ := q2
  exact ⟨.bl r, H', I', by rw [hv, er]; rfl, kk _ _ ⟨.bl r, M, z, g', rfl, q⟩⟩
theorem o_neT {k : Nat} {f : Ans} (hf : EqOk X CR k f) (hr : Room (k + 1) X.A) : OpR X (compareOp .NotEq) (l2 X.K CR (rNeT f)) := by
  intro pins s σ H x y v u Q I rx ry ⟨P, a, b, M, Qd, ra, rb, g, ⟨r, h, q⟩, kk⟩
  obtain ⟨xs, ys, rs, rfl, rfl, e, er⟩ := ansT_cases h
  obtain ⟨a, vs, rfl, fa, r1⟩ := ra
  obtain ⟨b, ws, rfl, fb, r2⟩ := rb
  obtain rfl : v = Value.ref a := rx
  obtain rfl : u = Value.ref b := ry
  show wpAny (model X.prog X.w) X.A (richCompare .NotEq (.ref a) (.ref b)) (EP X pins σ Q) X.xe s
  refine wpAny_mono (rcTn hf ⟨hr, rfl⟩ I g fa fb r1 r2 e) (fun v s' q2 => ?_) fun _ _ z => z
  obtain ⟨hv, H', I', z, g'⟩ := q2
  exact ⟨.bl (!r), H', I', by rw [hv, er]; rfl, kk _ _ ⟨.bl (!r), M, z, g', rfl, q⟩⟩
/-- rows of fractions, matrices of them -/
def ansRow : Ans := ansT ansR
def ansMat : Ans := ansT ansRow
def rEqB : D2 := fun a b M Q => rEqA a b M Q ∨ rEqT ansR a b M Q ∨ rEqT ansRow a b M Q
def rNeB : D2 := fun a b M Q => rNeA a b M Q ∨ rNeT ansR a b M Q ∨ rNeT ansRow a b M Q
theorem _root_.DL.RatT.o_eqB {k : Nat} (T : RatT X.prog X.w X.K X.mg X.base CR) (hr : Room k X.A) (hk : 40 ≤ k := by decide) : OpR X (compareOp .Eq) (l2 X.K CR rEqB) :=
  op2_or (T.o_eq hr (by omega)) (op2_or (r := fun a b M Q => rEqT ansR a b M Q ∨ rEqT ansRow a b M Q) (o_eqT (eqOk_rat T) (hr.mono (by omega))) (o_eqT (eqOk_tup (eqOk_rat T) refl_rat) (hr.mono (by omega))) fun _ _ _ _ h => h) fun _ _ _ _ h => h
theorem _root_.DL.RatT.o_neB {k : Nat} (T : RatT X.prog X.w X.K X.mg X.base CR) (hr : Room k X.A) (hk : 40 ≤ k := by decide) : OpR X (compareOp .NotEq) (l2 X.K CR rNeB) :=
  op2_or (T.o_ne hr (by omega)) (op2_or (r := fun a b M Q => rNeT ansR a b M Q ∨ rNeT ansRow a b M Q) (o_neT (eqOk_rat T) (hr.mono (by omega))) (o_neT (eqOk_tup (eqOk_rat T) refl_rat) (hr.mono (by omega))) fun _ _ _ _ h => h) fun _ _ _ _ h => h
end
section
open PySem.Spec PyProof.Rows L2
variable {X : Cx} {CR : Addr}
/-- is, of two truth values -/
theorem op_isBl : OpR X (compareOp .Is) (fun x y H Q => ∃ a b, x = .bl a ∧ y = .bl b ∧ Q (.bl (a == b)) H) := by
  intro pins s σ H x y v u Q I rx ry ⟨a, b, h1, h2, q⟩
  subst h1; subst h2
  cases rx
  cases ry
  show wpAny _ _ (do return Value.bool (← isSame (.bool a) (.bool b))) _ _ _
  refine wpAny_bind (wpAny_pure ?_)
  exact wpAny_pure ⟨.bl (a == b), H, I, by cases a <;> cases b <;> rfl, q⟩
def rIsB : D2 := fun a b M Q => ∃ x y, a = .bl x ∧ b = .bl y ∧ Q (.bl (x == y)) M
theorem o_isB : OpR X (compareOp .Is) (l2 X.K CR rIsB) := op_isBl.imp fun x y H Q hh => by
  obtain ⟨P, a, b, M, Qd, ra, rb, gd, ⟨p, q, rfl, rfl, r⟩, k⟩ := hh
  exact ⟨p, q, ra, rb, k _ _ (lf_bl gd r)⟩
end
/-! ### steps of the proof's own: what is told of the data may be told otherwise -/
def Cnv (δ : DS0) (M : Mem) (δ' : DS0) (M' : Mem) : Prop := ∀ (O : Own) (H : Hp) (σ : L2.St), RepS O H M δ σ → Good O H M → Fz O H M H M' ∧ Good O H M' ∧ RepS O H M' δ' σ
theorem Cnv.refl {δ M} : Cnv δ M δ M := fun _ _ _ r g => ⟨Fz.refl, g, r⟩
theorem Cnv.trans {δ M δ1 M1 δ2 M2} (a : Cnv δ M δ1 M1) (b : Cnv δ1 M1 δ2 M2) : Cnv δ M δ2 M2 := fun O H σ r g =>
  let ⟨z, g1, r1⟩ := a O H σ r g
  let ⟨z2, g2, r2⟩ := b O H σ r1 g1
  ⟨z.trans z2, g2, r2⟩
def dGo (w : DSt) : DSt := fun D δ M => ∃ δ' M', Cnv δ M δ' M' ∧ w D δ' M'
section
variable {X : Cx} {CR : Addr} {E : DXS} {W : WX}
theorem s_go {l : List Stmt} {w : DSt} (h : PDSs X (bs X CR E W) l w) : PDSs X (bs X CR E W) l (dGo w) := by
  refine h.imp fun Dn σ H hh => ?_
  obtain ⟨P, δ, M, Dd, hS, g, x, ⟨δ', M', cv, w⟩, k⟩ := hh
  obtain ⟨z, g', hS'⟩ := cv _ _ _ hS g
  exact ⟨P, δ', M', Dd, hS', g', x.trans z, w, k.trans z⟩
end
/-- a list is let go -/
theorem cnv_frz {δ : DS0} {M : Mem} {i : Nat} {p : Addr} {xs : List D} (hi : δ[i]? = some (some (.ref p))) (h : M p = some (.lst xs)) : Cnv δ M (δ.set i (some (.lst xs))) (mdel M p) := fun O H σ r g => by
  refine ⟨fz_del, good_del g, ?_⟩
  obtain ⟨v, e, rv⟩ := r.2 i _ hi
  have := (r.mono (fz_del (p := p))).set (i := i) (rep_frz g h)
  rw [show v = .ref p from rv] at e
  have hl : i < σ.length := (List.getElem?_eq_some_iff.mp e).1
  have : σ.set i (some (.ref p)) = σ := by
    refine List.ext_getElem? fun j => ?_
    by_cases n : j = i
    · subst n; rw [List.getElem?_set_self hl, e]
    · rw [List.getElem?_set_ne (Ne.symm n)]
  rw [← this]
  assumption
/-- a list of lists: all of them are let go; ps: their places -/
def delAll (M : Mem) : List Addr → Mem
  | [] => M
  | p :: ps => mdel (delAll M ps) p
theorem delAll_ne {M : Mem} {a : Addr} : ∀ {ps : List Addr}, (∀ p, p ∈ ps → a ≠ p) → delAll M ps a = M a
  | [], _ => rfl
  | p :: ps, h => by
    show mdel (delAll M ps) p a = _
    rw [mdel_ne (h p List.mem_cons_self)]
    exact delAll_ne fun q hq => h q (List.mem_cons_of_mem _ hq)
theorem frz_all {O : Own} {H : Hp} {M : Mem} (g : Good O H M) : ∀ (ps : List Addr), Fz O H M H (delAll M ps) ∧ Good O H (delAll M ps)
  | [] => ⟨Fz.refl, g⟩
  | p :: ps => by
    obtain ⟨z, g1⟩ := frz_all g ps
    exact ⟨z.trans fz_del, good_del g1⟩
/-- what the places hold: lists of data, told by f -/
def Holds (M : Mem) (f : Addr → List D) (ps : List Addr) : Prop := ∀ p, p ∈ ps → M p = some (.lst (f p))
theorem rep_all {O : Own} {H : Hp} {M : Mem} {f : Addr → List D} (g : Good O H M) {p : Addr} {ps : List Addr} (h : M p = some (.lst (f p))) (m : p ∈ ps) : Rep O H (delAll M ps) (.lst (f p)) (.ref p) := by
  obtain ⟨vs, e, r⟩ := g.at_ p _ h
  have hd : delAll M ps p = none := by
    induction ps with
    | nil => exact absurd m (by simp)
    | cons q qs ih =>
      show mdel (delAll M qs) q p = none
      by_cases n : p = q
      · rw [n]; exact mdel_same
      · rw [mdel_ne n]; exact ih (by rcases List.mem_cons.mp m with m | m; exact absurd m n; exact m)
  exact ⟨p, vs, rfl, ⟨⟨hd, g.noP h⟩, e⟩, r.mono (frz_all g ps).1⟩
theorem reps_all {O : Own} {H : Hp} {M : Mem} {f : Addr → List D} (g : Good O H M) {qs : List Addr} : ∀ (ps : List Addr) (vs : List V), Holds M f ps → (∀ p, p ∈ ps → p ∈ qs) → Reps O H M (ps.map D.ref) vs → Reps O H (delAll M qs) (ps.map fun p => .lst (f p)) vs
  | [], vs, _, _, r => r
  | p :: ps, vs, h, m, r => by
    obtain ⟨v, us, rfl, r1, r2⟩ := r
    rw [show v = .ref p from r1]
    exact ⟨_, us, rfl, rep_all g (h p List.mem_cons_self) (m p List.mem_cons_self), reps_all g ps us (fun q hq => h q (List.mem_cons_of_mem _ hq)) (fun q hq => m q (List.mem_cons_of_mem _ hq)) r2⟩
theorem cnv_all {δ : DS0} {M : Mem} {i : Nat} {ps : List Addr} {f : Addr → List D} (hi : δ[i]? = some (some (.lst (ps.map D.ref)))) (h : Holds M f ps) : Cnv δ M (δ.set i (some (.lst (ps.map fun p => .lst (f p))))) (delAll M ps) := fun O H σ r g => by
  obtain ⟨z, g1⟩ := frz_all g ps
  refine ⟨z, g1, ?_⟩
  obtain ⟨v, e, rv⟩ := r.2 i _ hi
  obtain ⟨a, vs, rfl, fl, rs⟩ := rv
  have hl : i < σ.length := (List.getElem?_eq_some_iff.mp e).1
  have es : σ.set i (some (.ref a)) = σ := by
    refine List.ext_getElem? fun j => ?_
    by_cases n : j = i
    · subst n; rw [List.getElem?_set_self hl, e]
    · rw [List.getElem?_set_ne (Ne.symm n)]
  have := (r.mono z).set (i := i) (d := .lst (ps.map fun p => .lst (f p))) (v := .ref a) ⟨a, vs, rfl, fl.mono z, reps_all g ps vs h (fun p hp => hp) rs⟩
  rw [es] at this
  exact this
/-- a name is told no more -/
theorem cnv_drop {δ : DS0} {M : Mem} {i : Nat} : Cnv δ M (δ.set i none) M := fun O H σ r g => by
  refine ⟨Fz.refl, g, ?_⟩
  refine ⟨by simp [r.1], fun j e h => ?_⟩
  by_cases n : j = i
  · subst n
    have hj : j < δ.length := by
      have := (List.getElem?_eq_some_iff.mp h).1
      simpa using this
    rw [List.getElem?_set_self hj] at h
    cases h
  · rw [List.getElem?_set_ne (Ne.symm n)] at h
    exact r.2 j e h
/-! ### slices -/
abbrev DO := DS0 → Mem → (Option Int → Mem → Prop) → Prop
def dNoPart : DO := fun _ M Q => Q none M
def dPart (w : DE) : DO := fun δ M Q => w δ M fun d M1 => ∃ i : Int, d = .int i ∧ Q (some i) M1
def lO (B : Bs) (w : DO) : TO := fun σ H Q => ∃ P δ M Qd, RepS ⟨B.K, B.CR, P⟩ H M δ σ ∧ Good ⟨B.K, B.CR, P⟩ H M ∧ XL ⟨B.K, B.CR, P⟩ H M B.E B.W ∧ w δ M Qd ∧ ∀ o H' M', Fz ⟨B.K, B.CR, P⟩ H M H' M' → Good ⟨B.K, B.CR, P⟩ H' M' → Qd o M' → Q o H'
abbrev PDO (X : Cx) (B : Bs) (e : Option Expr) (w : DO) : Prop := PO X e (lO B w)
theorem _root_.L2.PO.imp {X : Cx} {e : Option Expr} {t t' : TO} (h : PO X e t) (i : ∀ σ H Q, t' σ H Q → t σ H Q) : PO X e t' := ⟨fun p s σ H Q I q => h.run p s σ H Q I (i σ H Q q)⟩
def cutD (xs : List D) (lo hi : Option Int) : List D := (xs.drop (HT.sIx xs.length 0 lo)).take (HT.sIx xs.length xs.length hi - HT.sIx xs.length 0 lo)
def rSlD : D → Option Int → Option Int → Mem → DK → Prop := fun d lo hi M Q => (∃ xs, d = .lst xs ∧ Q (.lst (cutD xs lo hi)) M) ∨ (∃ p xs, d = .ref p ∧ M p = some (.lst xs) ∧ Q (.lst (cutD xs lo hi)) M) ∨ ∃ xs, d = .tup xs ∧ Q (.tup (cutD xs lo hi)) M
def dSl (w : DE) (l u : DO) : DE := fun δ M Q => w δ M fun d M1 => l δ M1 fun lo M2 => u δ M2 fun hi M3 => rSlD d lo hi M3 Q
theorem Reps.cut {O H M} {ds : List D} {vs : List V} (h : Reps O H M ds vs) (lo hi : Option Int) : Reps O H M (cutD ds lo hi) (cutV vs lo hi) := by
  unfold cutD cutV
  rw [h.length]
  exact (h.drop _).take _
theorem take_all {α : Type} {xs : List α} {n : Nat} (h : xs.length ≤ n) : xs.take n = xs := List.take_of_length_le h
section
variable {X : Cx} {CR : Addr} {E : DXS} {W : WX} {e : Expr} {w : DE} {lo hi : Option Expr} {l u : DO} {pos p2 : Pos}
theorem po_noneD : PDO X (bs X CR E W) none dNoPart := PO.imp po_none fun σ H Q ⟨P, δ, M, Qd, hS, g, x, w, k⟩ => k none H M Fz.refl g w
theorem po_someD (h : PD X (bs X CR E W) e w) : PDO X (bs X CR E W) (some e) (dPart w) := by
  refine PO.imp (po_some h) fun σ H Q hh => ?_
  obtain ⟨P, δ, M, Qd, hS, g, x, w, k⟩ := hh
  refine ⟨P, δ, M, _, hS, g, x, w, fun v H1 ⟨d, M1, z1, g1, r1, i, e, q⟩ => ?_⟩
  subst e
  exact ⟨i, r1, k (some i) H1 M1 z1 g1 q⟩
/-- t[lo:hi] of a tuple: the whole of it is t itself; otherwise a new one, known to the last -/
def rSlZ (K : PySem.W.Frag) : V → Option Int → Option Int → Hp → VK → Prop := fun x lo hi H Q => ∃ a xs, x = .ref a ∧ SqT K H a xs ∧
  (HT.sIx xs.length 0 lo = 0 ∧ HT.sIx xs.length xs.length hi = xs.length → Q (.ref a) H) ∧ (¬ (HT.sIx xs.length 0 lo = 0 ∧ HT.sIx xs.length xs.length hi = xs.length) → ∀ p o, H p = none → TupO o → Q (.ref p) (upd H p (.frz o (.tup (cutV xs lo hi)))))
theorem sl_tupZ : SlR X (rSlZ X.K) := by
  intro pins s σ H x v vl vu lo hi sl Q I rx hs pl pu h
  obtain ⟨a, xs, rfl, hx, q1, q2⟩ := h
  cases rx
  obtain ⟨its, r, ht, hz⟩ := I.tuple hx
  have hlen : its.toArray.size = xs.length := by rw [List.size_toArray]; exact r.length.symm
  refine ⟨"tuple", _, PyProof.Rows.slot_tuple_getitem.lookup, ht.typeIs, ?_⟩
  by_cases hw : HT.sIx xs.length 0 lo = 0 ∧ HT.sIx xs.length xs.length hi = xs.length
  · exact getItem_tuple_whole ht hs pl pu (by rw [hlen]; exact hw) ⟨.ref a, H, I, rfl, q1 hw⟩
  · refine HT.getItem_tuple_cut ht hs pl pu (by rw [hlen]; exact hw) ?_ (by rw [hlen]; exact hz)
    rw [hlen]
    refine ⟨.ref s.heap.objs.size, _, I.laid (t' := s.toks) (o := .frz { cls := .type "tuple", data := .seq (List.take (HT.sIx xs.length xs.length hi - HT.sIx xs.length 0 lo) (List.drop (HT.sIx xs.length 0 lo) its.toArray.toList)).toArray } (.tup (cutV xs lo hi))) (fun b ob q => Heap.get?_push_of_some _ q) (Nat.le_refl _) ?_, rfl, q2 hw _ _ (I.hok.fresh (Nat.le_refl _)) rfl⟩
    exact ⟨Heap.get?_push_size _ rfl, Nat.le_trans (cutV_length xs lo hi) hz, _, (r.drop (HT.sIx xs.length 0 lo)).take (HT.sIx xs.length xs.length hi - HT.sIx xs.length 0 lo), IsTup.new _ _⟩
theorem d_sl (he : PD X (bs X CR E W) e w) (hl : PDO X (bs X CR E W) lo l) (hu : PDO X (bs X CR E W) hi u) : PD X (bs X CR E W) (.Subscript e (.Slice lo hi none p2) pos) (dSl w l u) := by
  refine (pe_slice (SlR.or sl_list sl_tupZ) he hl hu).imp fun σ H Q h => ?_
  obtain ⟨P, δ, M, Qd, hS, g, x, w, k⟩ := h
  refine ⟨P, δ, M, _, hS, g, x, w, fun v H1 ⟨d, M1, z1, g1, r1, q1⟩ => ?_⟩
  refine ⟨P, δ, M1, _, hS.mono z1, g1, x.trans z1, q1, fun o H2 M2 z2 g2 q2 => ?_⟩
  refine ⟨P, δ, M2, _, (hS.mono z1).mono z2, g2, (x.trans z1).trans z2, q2, fun o2 H3 M3 z3 g3 q3 => ?_⟩
  have r3 := (r1.mono z2).mono z3
  have zz := (z1.trans z2).trans z3
  rcases q3 with ⟨xs, rfl, q⟩ | ⟨p, xs, rfl, em, q⟩ | ⟨xs, rfl, q⟩
  · obtain ⟨a, vs, rfl, f, rs⟩ := r3
    exact .inl ⟨a, vs, rfl, f.sq, fun p hp => k _ _ ((newL g3 hp (rs.cut o o2) q).trans zz)⟩
  · rw [show v = .ref p from r3]
    obtain ⟨vs, e1, rs⟩ := g3.at_ p _ em
    exact .inl ⟨p, vs, rfl, .of e1, fun p hp => k _ _ ((newL g3 hp (rs.cut o o2) q).trans zz)⟩
  · obtain ⟨a, vs, rfl, f, rs⟩ := r3
    refine .inr ⟨a, vs, rfl, f.sq, fun ⟨h1, h2⟩ => ?_, fun _ p ob hp t => k _ _ ((newT g3 hp t (rs.cut o o2) q).trans zz)⟩
    have e1 : cutD xs o o2 = xs := by
      unfold cutD
      rw [rs.length, h1, h2, List.drop_zero]
      exact take_all (by rw [rs.length]; omega)
    rw [e1] at q
    exact k _ _ ((LfV.here g3 (show Rep _ _ _ (.tup xs) (.ref a) from ⟨a, vs, rfl, f, rs⟩) q).trans zz)
end
/-! ### is not, of truth values -/
section
variable {X : Cx} {CR : Addr}
theorem op_notBl : OpR X (compareOp .IsNot) (fun x y H Q => ∃ a b, x = .bl a ∧ y = .bl b ∧ Q (.bl (a != b)) H) := by
  intro pins s σ H x y v u Q I rx ry ⟨a, b, h1, h2, q⟩
  subst h1; subst h2
  cases rx
  cases ry
  show wpAny _ _ (do return Value.bool (!(← isSame (.bool a) (.bool b)))) _ _ _
  refine wpAny_bind (wpAny_pure ?_)
  exact wpAny_pure ⟨.bl (a != b), H, I, by cases a <;> cases b <;> rfl, q⟩
def rNotB : D2 := fun a b M Q => ∃ x y, a = .bl x ∧ b = .bl y ∧ Q (.bl (x != y)) M
theorem o_notB : OpR X (compareOp .IsNot) (l2 X.K CR rNotB) := op_notBl.imp fun x y H Q hh => by
  obtain ⟨P, a, b, M, Qd, ra, rb, gd, ⟨p, q, rfl, rfl, r⟩, k⟩ := hh
  exact ⟨p, q, ra, rb, k _ _ (lf_bl gd r)⟩
end
/-! ### enumerate of a list -/
def enumD : Nat → List D → List D
  | _, [] => []
  | n, x :: xs => .prs [.int (n : Int), x] :: enumD (n + 1) xs
theorem enumD_length : ∀ (n : Nat) (xs : List D), (enumD n xs).length = xs.length
  | _, [] => rfl
  | n, x :: xs => by simp [enumD, enumD_length (n + 1) xs]
theorem enumD_get : ∀ {n : Nat} {xs : List D} {i : Nat} {d : D}, (enumD n xs)[i]? = some d → ∃ x, xs[i]? = some x ∧ d = .prs [.int ((n + i : Nat) : Int), x]
  | n, [], i, d, h => by simp [enumD] at h
  | n, x :: xs, 0, d, h => by simp [enumD] at h; exact ⟨x, rfl, h.symm⟩
  | n, x :: xs, i + 1, d, h => by
    simp [enumD] at h
    obtain ⟨y, e, r⟩ := enumD_get h
    exact ⟨y, by simpa using e, by rw [r, show n + 1 + i = n + (i + 1) by omega]⟩
def dEnum (t : DA) : DI := fun δ M R => t δ M fun ds M1 => (∃ xs, ds = [.lst xs] ∧ R (enumD 0 xs) always M1) ∨ ∃ p xs, ds = [.ref p] ∧ M1 p = some (.lst xs) ∧ R (enumD 0 xs) (fun M' => M' p = some (.lst xs)) M1
theorem walkD_enum {O : Own} {H0 M0} {a : Addr} {xs : List D} {chk : Mem → Prop} (fa : ∀ O' H M, Cv O H0 M0 O' H M → Good O' H M → chk M → ∃ vs, SqL O.K H a vs ∧ Reps O' H M xs vs) : WalkD O (Ite O.K a) H0 M0 (enumD 0 xs) chk where
  goes := fun i O' H M hi z g c => by
    rw [enumD_length] at hi
    obtain ⟨vs, h1, h2⟩ := fa O' H M z g c
    have l1 : i < vs.length := by rw [← h2.length]; exact hi
    exact ⟨vs, vs[i], h1, List.getElem?_eq_getElem l1⟩
  stops := fun O' H M z g c => by
    obtain ⟨vs, h1, h2⟩ := fa O' H M z g c
    exact ⟨vs, h1, by rw [enumD_length, h2.length]; exact Nat.le_refl _⟩
  yields := fun i O' H M d v H' hd z g c y => by
    obtain ⟨T, u, rfl, hT, rfl, f1⟩ := y
    obtain ⟨x, hx, rfl⟩ := enumD_get hd
    obtain ⟨vs, h1, h2⟩ := fa O' H M z g c
    obtain ⟨d1, e1, r1⟩ := h2.getV (f1 vs h1)
    rw [hx] at e1; cases e1
    rw [Nat.zero_add]
    exact pair_new g hT (x := .int ((i : Nat) : Int)) (u := .int ((i : Nat) : Int)) rfl r1
section
variable {X : Cx} {CR : Addr} {E : DXS} {W : WX} {pos : Pos}
theorem i_enum {e : Expr} {ta : DA} {p tpos : Pos} {elts : List Expr} {kk : Nat} (hm : X.mg "enumerate" = none) (ha : PDA X (bs X CR E W) [e] ta) (hg : Gl X "enumerate" := by rfl)
    (hs : starEach [e] X.env = [(false, eval e X.env)] := by rfl) :
    PDI X (bs X CR E W) (.Tuple elts kk tpos) (.Call (.Name "enumerate" p) [e] [] pos) (dEnum ta) := by
  refine (pi_enum hg hm ha hs).imp fun σ H R h => ?_
  obtain ⟨P, δ, M, Rd, hS, g, x, w, k⟩ := h
  refine ⟨P, δ, M, _, hS, g, x, w, fun vs H1 ds M1 z1 g1 rs q => ?_⟩
  rcases q with ⟨xs, rfl, q⟩ | ⟨p, xs, rfl, em, q⟩
  · obtain ⟨v, r, rfl, ⟨a, va, rfl, f1, r1⟩, e3⟩ := rs
    rw [show r = [] from e3]
    exact ⟨a, va, rfl, f1.sq, k _ H1 _ _ M1 z1 g1 (walkD_enum (chk := always) fun O' H M z g _ => ⟨va, z.k ▸ (f1.cv z).sq, r1.cv z⟩) q⟩
  · obtain ⟨v, r, rfl, rv, e3⟩ := rs
    rw [show r = [] from e3, show v = .ref p from rv]
    obtain ⟨va, e1, r1⟩ := g1.at_ p _ em
    exact ⟨p, va, rfl, .of e1, k _ H1 _ _ M1 z1 g1 (walkD_enum (chk := fun M' => M' p = some (.lst xs)) fun O' H M z g c => by
      obtain ⟨va, e1, r1⟩ := g.at_ p _ c
      exact ⟨va, .of e1, r1⟩) q⟩
/-! ### + of tuples, one of them empty at times -/
def rCatT : D2 := fun a b M Q => ∃ xs ys, a = .tup xs ∧ b = .tup ys ∧ xs.length + ys.length ≤ sizeLine ∧ Q (.tup (xs ++ ys)) M
def rCatAZ (K : PySem.W.Frag) : R2 := fun x y H Q => ∃ a b xs ys, x = .ref a ∧ y = .ref b ∧ SqT K H a xs ∧ SqT K H b ys ∧ xs.length + ys.length ≤ sizeLine ∧ (xs = [] → Q (.ref b) H) ∧ (xs ≠ [] → ys = [] → Q (.ref a) H) ∧ (xs ≠ [] → ys ≠ [] → ∀ p o, H p = none → TupO o → Q (.ref p) (upd H p (.frz o (.tup (xs ++ ys)))))
theorem op_catAZ : OpR X (binaryOp .Add) (rCatAZ X.K) := by
  intro pins s σ H x y v u Q I rx ry h
  obtain ⟨a, b, xs, ys, rfl, rfl, ha, hb, hz, q0, q1, q2⟩ := h
  by_cases hx : xs = []
  · subst hx
    cases rx
    cases ry
    obtain ⟨its, r1, p1, _⟩ := I.tuple ha
    obtain ⟨its2, r2, p2, _⟩ := I.tuple hb
    cases r1
    exact cat_tup0 p1 p2 ⟨.ref b, H, I, rfl, q0 rfl⟩
  · exact op_catZ pins s σ H _ _ v u Q I rx ry ⟨a, b, xs, ys, rfl, rfl, ha, hb, hx, hz, q1 hx, q2 hx⟩
theorem o_catT : OpR X (binaryOp .Add) (l2 X.K CR rCatT) := op_catAZ.imp fun x y H Q hh => by
  obtain ⟨P, a, b, M, Qd, ra, rb, gd, ⟨xs, ys, rfl, rfl, h2, h3⟩, k⟩ := hh
  have ra' := ra
  have rb' := rb
  obtain ⟨p, vs, rfl, f, rs⟩ := ra
  obtain ⟨q, ws, rfl, f2, rs2⟩ := rb
  refine ⟨p, q, vs, ws, rfl, rfl, f.sq, f2.sq, by rw [← rs.length, ← rs2.length]; exact h2, fun e => ?_, fun _ e => ?_, fun _ _ u o hu t => k _ _ (newT gd hu t (rs.append rs2) h3)⟩
  · have e2 := (reps_nil_iff rs).mp e
    subst e2
    exact k _ _ (LfV.here (d := .tup ys) gd rb' h3)
  · have e2 := (reps_nil_iff rs2).mp e
    subst e2
    rw [List.append_nil] at h3
    exact k _ _ (LfV.here (d := .tup xs) gd ra' h3)
end
/-! DLF: enumerate of a tuple; in, not in. -/
open PySem
open PySem.Sem (wp)
theorem enT_meets_newT (l : Addr) (items : Array Value) (n : Nat) (dct : Option Addr) (sl : Array (Option Value)) :
    Meets (Builtin.«enumerate.__new__» ⟨[.type "enumerate", .ref l], []⟩) (fun _ R s => s.heap.get? l = some { cls := .type "tuple", dict := dct, data := .seq items n, slots := sl } ∧
      R (.ok (.ret (.ref (s.heap.push { cls := .type "tuple_iterator", data := .fields #[.ref l, .int 0 0] }).objs.size)))
        { s with heap := (s.heap.push { cls := .type "tuple_iterator", data := .fields #[.ref l, .int 0 0] }).push { cls := .type "enumerate", data := .fields #[.none, .bool false, .ref s.heap.objs.size, rawInt 0, .none, .none] } }) :=
  .of_wp fun prog w A R s h => by
    obtain ⟨hp, g, d, tk, os⟩ := s; obtain ⟨hl, h⟩ := h
    have hsub := sub_enumerate
    have hL : Heap.IsTuple (Shared.heap ⟨hp, g, d, tk, os⟩) l items := ⟨_, hl, rfl, n, rfl⟩
    wp_walk using AutoSeq1.wpAny_loadPart' hl
    refine wpAny_stack_any fun st => wpAny_pure ?_
    split
    · rename_i c _ _ _ _ _
      cases (c == Value.type "enumerate")
      · wp_walk using AutoSeq1.wpAny_loadPart' hl, wpAny_pyIter_tuple hL
        exact ⟨_, rfl, h⟩
      · wp_walk using AutoSeq1.wpAny_loadPart' hl, wpAny_pyIter_tuple hL
        exact ⟨_, rfl, h⟩
    · wp_walk using AutoSeq1.wpAny_loadPart' hl, wpAny_pyIter_tuple hL
      exact ⟨_, rfl, h⟩
section
variable {prog : Program} {w : World} {A : Around} {E : Value → Shared → Prop} {s : Shared}
theorem enT_call_enumT {l : Addr} {items : Array Value} {Q : Value → Shared → Prop} (hL : s.heap.IsTuple l items)
    (h : ∀ h', IsEnum h' (s.heap.objs.size + 1) s.heap.objs.size 0 .none → h'.IsTupleIter s.heap.objs.size l 0 → h'.objs.size = s.heap.objs.size + 2 →
      (∀ b o, s.heap.get? b = some o → h'.get? b = some o) → Q (.ref (s.heap.objs.size + 1)) { s with heap := h' }) :
    wpAny (model prog w) A (call (.type "enumerate") [.ref l]) Q E s := by
  obtain ⟨⟨c, dct, dt, sl⟩, hl, hc, n, hd⟩ := hL
  replace hc : c = .type "tuple" := hc
  replace hd : dt = .seq items n := hd
  subst hc hd
  refine callType_new F.called_enumerate (by decide) (F.typeCall_enumerate_1 _) (F.newCall_enumerate_1 _) (fun obj => F.args_object_init_2 obj _) F.entry_enumerate_new
    (enT_meets_newT l items n dct sl) ⟨hl, ?_⟩
  have hz : (s.heap.push { cls := .type "tuple_iterator", data := .fields #[.ref l, .int 0 0] }).objs.size = s.heap.objs.size + 1 := Heap.size_push ..
  show _ ∧ _
  rw [hz]
  have he : IsEnum ((s.heap.push { cls := .type "tuple_iterator", data := .fields #[.ref l, .int 0 0] }).push
      { cls := .type "enumerate", data := .fields #[.none, .bool false, .ref s.heap.objs.size, rawInt 0, .none, .none] }) (s.heap.objs.size + 1) s.heap.objs.size 0 .none := by
    have := Heap.get?_push_size (s.heap.push { cls := .type "tuple_iterator", data := .fields #[.ref l, .int 0 0] })
      (o := { cls := .type "enumerate", data := .fields #[.none, .bool false, .ref s.heap.objs.size, rawInt 0, .none, .none] }) rfl
    rw [hz] at this; exact this
  refine ⟨⟨_, he, rfl⟩, h _ he ⟨_, Heap.get?_push_of_some _ (Heap.get?_push_size _ rfl), rfl, rfl⟩ (by rw [Heap.size_push, hz]) fun b o x => Heap.get?_push_of_some _ (Heap.get?_push_of_some _ x)⟩
theorem enT_drawsT {it l : Addr} {items : Array Value} (hh : A.handled = none) (hne : l ≠ it) : Draws prog w A it [it, l] items.size (fun i x => items[i]? = some x) (fun i h => h.IsTupleIter it l i ∧ h.IsTuple l items) where
  live := fun i h st => let ⟨o, ho, _⟩ := st.1; ⟨o, ho⟩
  frame := fun i h h' st k => ⟨st.1.at fun o q => k it (by simp) o q, let ⟨o, ho, r⟩ := st.2; ⟨o, k l (by simp) o ho, r⟩⟩
  item := fun i s Q E hi st hQ => by
    refine RZ.nextOf_tuple_item st.1 st.2 (x := items[i]) (Array.getElem?_eq_getElem hi) fun h' hit' sb => ?_
    have := hQ items[i] h' s.toks (Array.getElem?_eq_getElem hi) ⟨hit', let ⟨o, ho, r⟩ := st.2; ⟨o, (sb.2 l hne).trans ho, r⟩⟩ sb
    exact this
  done := fun s Q E st hE => RZ.nextOf_tuple_end hh st.1 st.2 (by simp) fun h' e eb ho => hE h' e eb ho
theorem enT_drawsE {it l : Addr} {items : Array Value} {n : Nat} (hn : items.size ≤ n) (hh : A.handled = none) : Draws prog w A it [it, l] n (fun _ _ => True) (fun i h => h.IsTupleIter it l i ∧ h.IsTuple l items ∧ i = n) where
  live := fun i h st => let ⟨o, ho, _⟩ := st.1; ⟨o, ho⟩
  frame := fun i h h' st k => ⟨st.1.at fun o q => k it (by simp) o q, let ⟨o, ho, r⟩ := st.2.1; ⟨o, k l (by simp) o ho, r⟩, st.2.2⟩
  item := fun i s Q E hi st hQ => absurd st.2.2 (Nat.ne_of_lt hi)
  done := fun s Q E st hE => RZ.nextOf_tuple_end hh st.1 st.2.1 (Array.getElem?_eq_none hn) fun h' e eb ho => hE h' e eb ho
end
/-- the tuple at a, each item in a new pair -/
def IteT (K : PySem.W.Frag) (a : Addr) : It :=
  ⟨fun i H => ∃ (xs : List V) (x : V), SqT K H a xs ∧ xs[i]? = some x, fun i H v H' => ∃ T x, v = .ref T ∧ H T = none ∧ H' = upd H T (.tup [.int (i : Nat), x]) ∧ ∀ xs, SqT K H a xs → xs[i]? = some x, fun i H => ∃ xs : List V, SqT K H a xs ∧ xs.length ≤ i⟩
theorem turn_enumT {P : Program} {w : World} {K : PySem.W.Frag} {elts : List Expr} {kk : Nat} {tpos : Pos} (a e it : Addr) :
    Turn P w K (.Tuple elts kk tpos) (IteT K a) [e, it] e (fun i h => (∃ old, IsEnum h e it ((i : Nat) : Int) old) ∧ h.IsTupleIter it a i ∧ e ≠ it) where
  mem := by simp
  obj := fun i h st b hb => by
    obtain ⟨⟨old, he⟩, ⟨o, ho, hc, hd⟩, _⟩ := st
    have e' : b = e ∨ b = it := by simpa using hb
    rcases e' with z | z
    · rw [z]; exact ⟨_, he, fun v q => nomatch q⟩
    · rw [z]; exact ⟨o, ho, fun v q => by rw [hd] at q; cases q⟩
  keep := fun i h h' st k => let ⟨⟨old, he⟩, hi, hne⟩ := st; ⟨⟨old, k e (by simp) _ he⟩, hi.at fun o q => k it (by simp) o q, hne⟩
  item := by
    intro X hP hw hK hc i pins s σ H E I hf st hg
    subst hP hw hK
    obtain ⟨⟨old, he⟩, hit, hne⟩ := st
    obtain ⟨xs, x, hq, hx⟩ := hg
    obtain ⟨its, rv, p, hz⟩ := I.tuple hq
    obtain ⟨u, hu, ru⟩ := rv.get hx
    have hel : e < s.heap.objs.size := Heap.lt_size he
    have hil : it < s.heap.objs.size := by obtain ⟨_, q, _⟩ := hit; exact Heap.lt_size q
    have hai : a ≠ it := fun z => by
      obtain ⟨o1, q1, c1, _⟩ := show s.heap.IsTuple a its.toArray from p
      obtain ⟨o2, q2, c2, _⟩ := hit
      rw [z, q2] at q1; cases q1
      rw [c1] at c2
      injection c2 with c2
      exact absurd c2 (by decide)
    have hea : e ∉ [it, a] := fun m => by
      have m' : e = it ∨ e = a := by simpa using m
      rcases m' with m | m
      · exact hne m
      · obtain ⟨o1, q1, c1, _⟩ := show s.heap.IsTuple a its.toArray from p
        have he' : s.heap.get? e = _ := he
        rw [m, q1] at he'; cases he'
        injection c1 with c1
        exact absurd c1 (by decide)
    have hlt : i < its.toArray.size := by
      have := (List.getElem?_eq_some_iff.mp hu).1
      simpa using this
    refine wpAny_pyNext_enum_itemD (P := fun i x => its.toArray[i]? = some x) (enT_drawsT (A := X.A.in1) (I.ok.hd hc) hai) he ⟨hit, p⟩ hlt hne hea fun x0 h' tk hP ho hst hT hsz hk => ?_
    have hx0 : x0 = u := by
      have e1 : its[i]? = some x0 := by simpa using hP
      rw [hu] at e1; cases e1; rfl
    subst hx0
    refine ⟨_, rfl, wpAny_letOwnedTupleGo_enum (s := { s with heap := h', toks := tk + 1 }) ho fun h'' he' sb => ?_⟩
    have hT2 : h''.get? s.heap.objs.size = some { cls := .type "tuple", data := .seq #[.int i tk, x0] } := (sb.2 _ (Nat.ne_of_gt hel)).trans hT
    have new : ObjOk X.prog X.w (upd H s.heap.objs.size (.tup [.int (i : Nat), x])) h'' s.heap.objs.size (.tup [.int (i : Nat), x]) :=
      ⟨by show 2 ≤ sizeLine; decide, [.int i tk, x0], .cons ⟨_, rfl⟩ (.cons ru .nil), ⟨_, hT2, rfl, _, rfl⟩⟩
    have I1 : Inv X pins σ (upd H s.heap.objs.size (.tup [.int (i : Nat), x])) { s with heap := h'', toks := tk + 1 } :=
      I.turnedNew (ch := [e, it]) (fun b ob hb q => (sb.2 b (fun z => hb (by simp [z]))).trans (hk b ob (fun z => hb (by simp [z])) (fun z => hb (by simp [z])) q)) hf (Nat.le_refl _) new
    refine ⟨.ref s.heap.objs.size, _, I1, rfl, ⟨_, x, rfl, I.hok.fresh (Nat.le_refl _), rfl, fun ys hy => by rw [I.tuple_inj hy hq]; exact hx⟩, ⟨⟨x0, ?_⟩, hst.1.at fun o q => (sb.2 it (Ne.symm hne)).trans q, hne⟩, fun b hb => ?_⟩
    · have e1 : ((i + 1 : Nat) : Int) = (i : Int) + 1 := by omega
      rw [e1]; exact he'
    · have hb' : b < s.heap.objs.size := by
        have e' : b = e ∨ b = it := by simpa using hb
        rcases e' with z | z
        · rw [z]; exact hel
        · rw [z]; exact hil
      rw [upd_ne (Nat.ne_of_lt hb')]
      exact (hf b hb).1
  done := by
    intro X hP hw hK hc i pins s σ H E I hf st hg
    subst hP hw hK
    obtain ⟨⟨old, he⟩, hit, hne⟩ := st
    obtain ⟨xs, hq, hx⟩ := hg
    obtain ⟨its, rv, p, hz⟩ := I.tuple hq
    obtain ⟨f0, f1, f2, f3, f4, f5⟩ := hf it (by simp)
    have hl := rv.length
    exact wpAny_pyNext_enum_endD (enT_drawsE (A := X.A.in1) (n := i) (items := its.toArray) (by simp; omega) (I.ok.hd hc)) he ⟨hit, p, rfl⟩ fun h' eb => ⟨rfl, I.turned (t' := s.toks) (fun b o hb q => eb b o hb q) f0 f1 f3 f4 f5⟩
  self := fun A i s Q E st h => let ⟨⟨_, he⟩, _⟩ := st; wpAny_pyIter_enum he h
def iEnumA (K : PySem.W.Frag) (ta : TA) : TI := fun σ H R => ta σ H fun vs H1 => ∃ a xs, vs = [.ref a] ∧ ((SqL K H1 a xs ∧ R (Ite K a) H1) ∨ (SqT K H1 a xs ∧ R (IteT K a) H1))
theorem pi_enumA {X : Cx} {e : Expr} {ta : TA} {p pos tpos : Pos} {elts : List Expr} {kk : Nat} (hg : Gl X "enumerate") (hm : X.mg "enumerate" = none) (ha : PA X [e] ta) (hs : starEach [e] X.env = [(false, eval e X.env)] := by rfl) :
    PI X (.Tuple elts kk tpos) (.Call (.Name "enumerate" p) [e] [] pos) (iEnumA X.K ta) := by
  refine ⟨fun pins s σ H R I h => ?_⟩
  refine Call_ (ld_blt I hg hm boot_enumerate (PyProof.Rows.callWith_type1 (thn (ha.run pos pins s σ H _ I h) fun us s1 ⟨vs, H1, I1, r1, q1⟩ => ?_) hs rfl))
  obtain ⟨a, xs, ex, q⟩ := q1
  subst ex
  cases r1 with
  | cons r rr =>
    cases rr
    cases r
    have fresh2 : ∀ b, b ∈ [s1.heap.objs.size + 1, s1.heap.objs.size] → FpOk X pins H1 b := fun b hb => by
      have e' : b = s1.heap.objs.size + 1 ∨ b = s1.heap.objs.size := by simpa using hb
      have hle : s1.heap.objs.size ≤ b := by
        rcases e' with z | z
        · rw [z]; exact Nat.le_add_right _ _
        · rw [z]; exact Nat.le_refl _
      exact I1.fpOk hle (I1.hok.fresh hle)
    rcases q with ⟨hq, q⟩ | ⟨hq, q⟩
    · obtain ⟨its, rv, p', hz⟩ := I1.list hq
      refine call_enumerate_list p'.isList fun h' he hit hsz hk => wpAny_pyIter_enum he ?_
      have I2 : Inv X pins σ H1 { s1 with heap := h' } := I1.kept (t' := s1.toks) hk
      exact ⟨s1.heap.objs.size + 1, [s1.heap.objs.size + 1, s1.heap.objs.size], _, _, H1, rfl, I2, turn_enum a (s1.heap.objs.size + 1) s1.heap.objs.size, ⟨⟨.none, he⟩, hit, Nat.succ_ne_self _⟩, fresh2, q⟩
    · obtain ⟨its, rv, p', hz⟩ := I1.tuple hq
      refine enT_call_enumT (show s1.heap.IsTuple a its.toArray from p') fun h' he hit hsz hk => wpAny_pyIter_enum he ?_
      have I2 : Inv X pins σ H1 { s1 with heap := h' } := I1.kept (t' := s1.toks) hk
      exact ⟨s1.heap.objs.size + 1, [s1.heap.objs.size + 1, s1.heap.objs.size], _, _, H1, rfl, I2, turn_enumT a (s1.heap.objs.size + 1) s1.heap.objs.size, ⟨⟨.none, he⟩, hit, Nat.succ_ne_self _⟩, fresh2, q⟩
def dEnumA (t : DA) : DI := fun δ M R => t δ M fun ds M1 => (∃ xs, (ds = [.lst xs] ∨ ds = [.tup xs]) ∧ R (enumD 0 xs) always M1) ∨ ∃ p xs, ds = [.ref p] ∧ M1 p = some (.lst xs) ∧ R (enumD 0 xs) (fun M' => M' p = some (.lst xs)) M1
theorem walkD_enumT {O : Own} {H0 M0} {a : Addr} {xs : List D} (fa : ∀ O' H M, Cv O H0 M0 O' H M → Good O' H M → ∃ vs, SqT O.K H a vs ∧ Reps O' H M xs vs) : WalkD O (IteT O.K a) H0 M0 (enumD 0 xs) always where
  goes := fun i O' H M hi z g c => by
    rw [enumD_length] at hi
    obtain ⟨vs, h1, h2⟩ := fa O' H M z g
    have l1 : i < vs.length := by rw [← h2.length]; exact hi
    exact ⟨vs, vs[i], h1, List.getElem?_eq_getElem l1⟩
  stops := fun O' H M z g c => by
    obtain ⟨vs, h1, h2⟩ := fa O' H M z g
    exact ⟨vs, h1, by rw [enumD_length, h2.length]; exact Nat.le_refl _⟩
  yields := fun i O' H M d v H' hd z g c y => by
    obtain ⟨T, u, rfl, hT, rfl, f1⟩ := y
    obtain ⟨x, hx, rfl⟩ := enumD_get hd
    obtain ⟨vs, h1, h2⟩ := fa O' H M z g
    obtain ⟨d1, e1, r1⟩ := h2.getV (f1 vs h1)
    rw [hx] at e1; cases e1
    rw [Nat.zero_add]
    exact pair_new g hT (x := .int ((i : Nat) : Int)) (u := .int ((i : Nat) : Int)) rfl r1
section
variable {X : Cx} {CR : Addr} {E : DXS} {W : WX} {pos : Pos}
theorem i_enumA {e : Expr} {ta : DA} {p tpos : Pos} {elts : List Expr} {kk : Nat} (hm : X.mg "enumerate" = none) (ha : PDA X (bs X CR E W) [e] ta) (hg : Gl X "enumerate" := by rfl)
    (hs : starEach [e] X.env = [(false, eval e X.env)] := by rfl) :
    PDI X (bs X CR E W) (.Tuple elts kk tpos) (.Call (.Name "enumerate" p) [e] [] pos) (dEnumA ta) := by
  refine (pi_enumA hg hm ha hs).imp fun σ H R h => ?_
  obtain ⟨P, δ, M, Rd, hS, g, x, w, k⟩ := h
  refine ⟨P, δ, M, _, hS, g, x, w, fun vs H1 ds M1 z1 g1 rs q => ?_⟩
  rcases q with ⟨xs, rfl | rfl, q⟩ | ⟨p, xs, rfl, em, q⟩
  · obtain ⟨v, r, rfl, ⟨a, va, rfl, f1, r1⟩, e3⟩ := rs
    rw [show r = [] from e3]
    exact ⟨a, va, rfl, .inl ⟨f1.sq, k _ H1 _ _ M1 z1 g1 (walkD_enum (chk := always) fun O' H M z g _ => ⟨va, z.k ▸ (f1.cv z).sq, r1.cv z⟩) q⟩⟩
  · obtain ⟨v, r, rfl, ⟨a, va, rfl, f1, r1⟩, e3⟩ := rs
    rw [show r = [] from e3]
    exact ⟨a, va, rfl, .inr ⟨f1.sq, k _ H1 _ _ M1 z1 g1 (walkD_enumT fun O' H M z g => ⟨va, z.k ▸ (f1.cv z).sq, r1.cv z⟩) q⟩⟩
  · obtain ⟨v, r, rfl, rv, e3⟩ := rs
    rw [show r = [] from e3, show v = .ref p from rv]
    obtain ⟨va, e1, r1⟩ := g1.at_ p _ em
    exact ⟨p, va, rfl, .inl ⟨.of e1, k _ H1 _ _ M1 z1 g1 (walkD_enum (chk := fun M' => M' p = some (.lst xs)) fun O' H M z g c => by
      obtain ⟨va, e1, r1⟩ := g.at_ p _ c
      exact ⟨va, .of e1, r1⟩) q⟩⟩
end
/-! ### in, not in: a number in a tuple, a list of numbers -/
def intsOf : List D → Option (List Int)
  | [] => some []
  | .int i :: ds => (intsOf ds).map (i :: ·)
  | _ :: _ => none
def rInQ (neg : Bool) : D2 := fun a b M Q => ∃ (i : Int) (ds : List D) (ns : List Int), a = .int i ∧ (b = .tup ds ∨ b = .lst ds) ∧ intsOf ds = some ns ∧ Q (.bl (if neg then !decide (i ∈ ns) else decide (i ∈ ns))) M
theorem ints_reps {O : Own} {H : Hp} {M : Mem} : ∀ {ds : List D} {ns : List Int} {vs : List V}, intsOf ds = some ns → Reps O H M ds vs → vs = ns.map V.int
  | [], ns, vs, h, r => by
    rw [show vs = [] from r]
    cases h; rfl
  | d :: ds, ns, vs, h, r => by
    obtain ⟨v, us, rfl, r1, r2⟩ := r
    cases d with
    | int i =>
      unfold intsOf at h
      cases e : intsOf ds with
      | none => rw [e] at h; cases h
      | some ms =>
        rw [e] at h; cases h
        rw [show v = .int i from r1, ints_reps e r2]; rfl
    | _ => cases h
theorem inV_int (i : Int) : ∀ ns : List Int, (ns.map V.int).all flatV = true ∧ inV (.int i) (ns.map V.int) = decide (i ∈ ns)
  | [] => ⟨rfl, (decide_eq_false (List.not_mem_nil)).symm⟩
  | n :: ns => by
    obtain ⟨h1, h2⟩ := inV_int i ns
    refine ⟨by rw [List.map_cons, List.all_cons, h1]; rfl, ?_⟩
    unfold inV at h2 ⊢
    rw [List.map_cons, List.any_cons, h2]
    show ((n == i) || decide (i ∈ ns)) = decide (i ∈ n :: ns)
    by_cases e : i = n
    · subst e
      rw [decide_eq_true (List.mem_cons_self), show (i == i) = true from beq_self_eq_true i]; rfl
    · have e1 : (n == i) = false := by
        cases h : n == i with
        | true => exact absurd (eq_of_beq h).symm e
        | false => rfl
      rw [e1, Bool.false_or]
      by_cases m : i ∈ ns
      · rw [decide_eq_true m, decide_eq_true (List.mem_cons_of_mem _ m)]
      · rw [decide_eq_false m, decide_eq_false fun z => (List.mem_cons.mp z).elim e m]
section
variable {X : Cx} {CR : Addr}
theorem o_inQ : OpR X (compareOp .In) (l2 X.K CR (rInQ false)) := op_in_seq.imp fun x y H Q hh => by
  obtain ⟨P, a, b, M, Qd, ra, rb, gd, ⟨i, ds, ns, rfl, hb, hn, q⟩, k⟩ := hh
  rw [show x = .int i from ra]
  obtain ⟨h1, h2⟩ := inV_int i ns
  rcases hb with rfl | rfl
  · obtain ⟨p, vs, rfl, f, rs⟩ := rb
    rw [ints_reps hn rs] at f
    exact ⟨p, _, rfl, .inr f.sq, rfl, h1, by rw [h2]; exact k _ _ (lf_bl gd q)⟩
  · obtain ⟨p, vs, rfl, f, rs⟩ := rb
    rw [ints_reps hn rs] at f
    exact ⟨p, _, rfl, .inl f.sq, rfl, h1, by rw [h2]; exact k _ _ (lf_bl gd q)⟩
theorem o_notInQ : OpR X (compareOp .NotIn) (l2 X.K CR (rInQ true)) := op_notIn_seq.imp fun x y H Q hh => by
  obtain ⟨P, a, b, M, Qd, ra, rb, gd, ⟨i, ds, ns, rfl, hb, hn, q⟩, k⟩ := hh
  rw [show x = .int i from ra]
  obtain ⟨h1, h2⟩ := inV_int i ns
  rcases hb with rfl | rfl
  · obtain ⟨p, vs, rfl, f, rs⟩ := rb
    rw [ints_reps hn rs] at f
    exact ⟨p, _, rfl, .inr f.sq, rfl, h1, by rw [h2]; exact k _ _ (lf_bl gd q)⟩
  · obtain ⟨p, vs, rfl, f, rs⟩ := rb
    rw [ints_reps hn rs] at f
    exact ⟨p, _, rfl, .inl f.sq, rfl, h1, by rw [h2]; exact k _ _ (lf_bl gd q)⟩
end
/-! DLG: names from a list. -/
open PySem
open PySem.Sem (wp)
section
variable {prog : Program} {w : World} {A : Around} {E : Value → Shared → Prop} {s : Shared}
theorem unL_draw {it t : Addr} {items : Array Value} (hne : t ≠ it) : ∀ (n i : Nat) (s : Shared) (Q : List Value → Shared → Prop), s.heap.IsListIter it t i → s.heap.IsList t items → i + n ≤ items.size →
    (∀ h', h'.IsListIter it t (i + n) → Heap.SameBut it s.heap h' → Q ((items.toList.drop i).take n) { s with heap := h' }) → wpAny (model prog w) A (draw (.ref it) n) Q E s
  | 0, i, s, Q, hit, _, _, hQ => by
    show wpAny _ _ (pure []) Q E s
    exact wpAny_pure (by simpa using hQ s.heap hit (Heap.SameBut.refl ..))
  | n + 1, i, s, Q, hit, ht, hle, hQ => by
    have hlt : i < items.size := by omega
    show wpAny _ _ (pyNext (.ref it) >>= _) Q E s
    refine wpAny_bind (wpAny_pyNext_list_item hit ht (x := items[i]) (by simp [hlt]) fun h₁ hit₁ hs₁ => ?_)
    refine wpAny_bind (wpAny_holding (unL_draw hne n (i + 1) _ _ hit₁ (ht.extBut hs₁.extBut hne) (by omega) fun h₂ hit₂ hs₂ => wpAny_pure ?_))
    have hd : items.toList.drop i = items[i] :: items.toList.drop (i + 1) := by simp [List.drop_eq_getElem_cons, hlt]
    have := hQ h₂ (by rw [show i + (n + 1) = i + 1 + n by omega]; exact hit₂) (hs₁.trans hs₂)
    rw [hd, List.take_succ_cons] at this
    exact this
theorem unL_items {t : Addr} {items : Array Value} {Q : List Value → Shared → Prop} (hh : A.handled = none) (ht : s.heap.IsList t items)
    (hQ : ∀ h', Heap.ExtBut s.heap.objs.size s.heap h' → Q items.toList { s with heap := h' }) : wpAny (model prog w) A (unpackItems (.ref t) items.size none) Q E s := by
  have hlt : t ≠ s.heap.objs.size := by obtain ⟨o, ho, _⟩ := ht; exact Nat.ne_of_lt (Heap.lt_size ho)
  unfold unpackItems
  refine wpAny_bind ?_
  · unfold notIterableAtAll
    refine wpAny_bind (wpAny_specialOf ht.typeIs slot_list_iter.lookup ?_)
    refine wpAny_pure ?_
    simp only [Bool.false_eq_true, if_false]
    refine wpAny_bind (wpAny_holding (wpAny_pyIter_list ht ?_))
    refine wpAny_bind (wpAny_holding (unL_draw hlt items.size 0 _ _ ⟨_, Heap.get?_push_size _ rfl, rfl, rfl⟩ (ht.push _) (by omega) fun h₁ hit₁ hs₁ => ?_))
    have hall : List.take items.size (List.drop 0 items.toList) = items.toList := by
      rw [List.drop_zero]; exact List.take_of_length_le (by simp)
    rw [hall]
    rw [if_neg (by simp)]
    have ht₁ : h₁.IsList t items := (ht.push _).extBut hs₁.extBut hlt
    refine wpAny_bind (wpAny_holding (wpAny_pyNext_list_end hh hit₁ ht₁ (by simp) fun h₂ he₂ => ?_))
    simp only [Option.isSome_none, Bool.false_eq_true, if_false]
    refine wpAny_pure (hQ h₂ fun b o hb e => he₂ b o hb (hs₁.extBut b o hb (Heap.get?_push_of_some _ e)))
theorem unL_assign {env : Env} {elts : List Expr} {x1} {pos : Pos} {t : Addr} {items : Array Value} {Q : Unit → Shared → Prop} (hh : A.handled = none) (ht : s.heap.IsList t items)
    (hn : (assignEach elts env).length = items.size) (hstar : (assignEach elts env).findIdx? (·.1) = none)
    (h : ∀ h', Heap.ExtBut s.heap.objs.size s.heap h' → wpAny (model prog w) A (assignInOrder ((assignEach elts env).map (·.2)) items.toList) Q E { s with heap := h' }) :
    wpAny (model prog w) A (assign (.Tuple elts x1 pos) env (.ref t)) Q E s := by
  rw [PyProof.Rows.assign_Tuple]
  refine wpAny_bind (wpAny_standAt ?_)
  unfold unpack
  rw [hn, hstar]
  exact wpAny_bind (wpAny_holding (unL_items hh ht h))
end
section
variable {X : Cx} {CR : Addr} {E : DXS} {W : WX} {pos : Pos}
def gTupL (K : PySem.W.Frag) (n : Nat) (t : TGs) : TG := fun v σ H Q => ∃ a xs, v = .ref a ∧ SqL K H a xs ∧ xs.length = n ∧ t xs σ H Q
theorem pg_tupL {es : List Expr} {k : Nat} {t : TGs} {n : Nat} (hc : X.calm = true) (h : PGs X es t)
    (hn : (assignEach es X.env).length = n := by rfl) (hst : (assignEach es X.env).findIdx? (·.1) = none := by rfl) : PG X (.Tuple es k pos) (gTupL X.K n t) := by
  refine ⟨fun pins s σ H v u Q I r hw => ?_⟩
  obtain ⟨a, xs, e1, hq, hl, hw⟩ := hw
  subst e1
  cases r
  obtain ⟨its, rv, ht, hz⟩ := I.list hq
  refine unL_assign (I.ok.hd hc) ht.isList (by simp [hn, ← hl, rv.length]) hst fun h' hx => ?_
  have I1 : Inv X pins σ H { s with heap := h' } := I.kept (t' := s.toks) fun b o e => hx b o (Nat.ne_of_lt (Heap.lt_size e)) e
  exact h.run pins _ σ H xs _ Q I1 (by simpa using rv) hw
def gTuL (n : Nat) (t : DGs) : DG := fun d δ M Q => ∃ xs, d = .lst xs ∧ xs.length = n ∧ t xs δ M Q
theorem g_tuL {es : List Expr} {k : Nat} {t : DGs} {n : Nat} (hc : X.calm = true) (h : PDGs X (bs X CR E W) es t)
    (hn : (assignEach es X.env).length = n := by rfl) (hst : (assignEach es X.env).findIdx? (·.1) = none := by rfl) : PDG X (bs X CR E W) (.Tuple es k pos) (gTuL n t) := by
  refine (pg_tupL hc h hn hst).imp fun v σ H Q h => ?_
  obtain ⟨P, d, δ, M, Qd, r, hS, g, x, ⟨xs, e, hl, q⟩, k⟩ := h
  subst e
  obtain ⟨a, vs, rfl, f, rs⟩ := r
  exact ⟨a, vs, rfl, f.sq, by rw [← rs.length]; exact hl, P, xs, δ, M, Qd, rs, hS, g, x, q, k⟩
end
open PySem PySem.SeqAt
open MeetsSeq MeetsSeq2 MeetsSeq3 SeqRoads2
/-! ### list.remove with any == -/
section
variable {prog : Program} {w : World} {A : Around} {R : Result → Shared → Prop}
theorem remove_loopG (l : Addr) (x : Value) (N : Nat) (c : Nat → Bool) (I : Nat → Shared → Prop) (j : Nat)
    (at_ : ∀ i s, I i s → ∃ (items : Array Value) (n : Nat), s.heap.get? l = some { cls := .type "list", dict := none, data := .seq items n, slots := #[] } ∧ items.size = N ∧
      ∀ (h : i < items.size), i ≤ j → wpAny (model prog w) A.in1 (eqBool items[i] x) (fun r s' => r = c i ∧ I (i + 1) s') (fun e s' => R (.error e) s') s)
    (hj : j < N) (hit : c j = true) (hno : ∀ i, i < j → c i = false) (hs1 : N ≤ sizeLine)
    (fin : ∀ s, I (j + 1) s → R (.ok (.ret .none)) { s with heap := s.heap.update l (Obj.mapSeq fun xs => xs.eraseIdxIfInBounds j) }) (k : Nat) :
    ∀ i : Nat, j - i = k → i ≤ j → ∀ s, I i s → wpAny (model prog w) A.in1 (Builtin.«list.remove.loop» ⟨[.ref l, x, rawInt i], []⟩) (GQ.FinOf prog w A R) (fun e s' => R (.error e) s') s := by
  induction k with
  | zero =>
    intro i hk hij s h
    obtain ⟨items, n, hl, hN, turn⟩ := at_ i s h
    have hij' : i = j := by omega
    subst hij'
    obtain ⟨hp, g, d, tk, os⟩ := s
    wp_walk using AutoSeq1.wpAny_loadPart' hl
    have hi : items[((i : Nat) : Int).toNat]? = some items[i] := by simp [hN, hj]
    rw [hi]
    refine wpAny_bind (wpAny_mono (turn (by omega) (by omega)) (fun r s2 q => ?_) fun _ _ z => z)
    obtain ⟨hr, hI2⟩ := q
    rw [hr, hit]
    obtain ⟨items2, n2, hl2, hN2, _⟩ := at_ _ _ hI2
    have q := fin s2 hI2
    obtain ⟨hp2, g2, d2, tk2, os2⟩ := s2
    have hz : items2.size ≤ sizeLine := by omega
    have hz' : (items2.eraseIdxIfInBounds i).size ≤ sizeLine + 1 := Nat.le_trans (size_erased items2 _) (Nat.le_succ_of_le hz)
    wp_walk using (wpAny_updateSeq hl2 rfl (hz := hz) (_hz' := hz')), AutoSeq1.wpAny_loadPart' hl2
    simpa using q
  | succ k ih =>
    intro i hk hij s h
    obtain ⟨items, n, hl, hN, turn⟩ := at_ i s h
    obtain ⟨hp, g, d, tk, os⟩ := s
    have hlt : i < items.size := by omega
    wp_walk using AutoSeq1.wpAny_loadPart' hl
    have hi : items[((i : Nat) : Int).toNat]? = some items[i] := by simp [hlt]
    have hc : ((i : Int) + 1) = ((i + 1 : Nat) : Int) := by push_cast; rfl
    rw [hi]
    refine wpAny_bind (wpAny_mono (turn hlt (by omega)) (fun r s2 q => ?_) fun _ _ z => z)
    obtain ⟨hr, hI2⟩ := q
    rw [hr, hno i (by omega)]
    wp_walk
    rw [hc]
    exact ⟨plainId_quiet plain_remove_loop _, codeAny_builtin entry_remove_loop (by
      rw [Around.under_plainId plain_remove_loop _]
      exact ih (i + 1) (by omega) (by omega) _ hI2)⟩
theorem removeG (l : Addr) (x : Value) (N : Nat) (c : Nat → Bool) (I : Nat → Shared → Prop) (j : Nat)
    (at_ : ∀ i s, I i s → ∃ (items : Array Value) (n : Nat), s.heap.get? l = some { cls := .type "list", dict := none, data := .seq items n, slots := #[] } ∧ items.size = N ∧
      ∀ (h : i < items.size), i ≤ j → wpAny (model prog w) A.in1 (eqBool items[i] x) (fun r s' => r = c i ∧ I (i + 1) s') (fun e s' => R (.error e) s') s)
    (hj : j < N) (hit : c j = true) (hno : ∀ i, i < j → c i = false) (hs1 : N ≤ sizeLine)
    (fin : ∀ s, I (j + 1) s → R (.ok (.ret .none)) { s with heap := s.heap.update l (Obj.mapSeq fun xs => xs.eraseIdxIfInBounds j) }) {s : Shared} (h : I 0 s) :
    wpAny (model prog w) A.in1 (Builtin.«list.remove» ⟨[.ref l, x], []⟩) (GQ.FinOf prog w A R) (fun e s' => R (.error e) s') s := by
  obtain ⟨items, n, hl, hN, turn⟩ := at_ 0 s h
  have h0 := h
  obtain ⟨hp, g, d, tk, os⟩ := s
  wp_walk using AutoSeq1.wpAny_loadPart' hl
  exact ⟨plainId_quiet plain_remove_loop _, codeAny_builtin entry_remove_loop (by
    rw [Around.under_plainId plain_remove_loop _]
    exact remove_loopG l x N c I j at_ hj hit hno hs1 fin _ 0 rfl (Nat.zero_le _) _ h0)⟩
end
section
open PySem.Spec PyProof.Rows L2
variable {X : Cx} {CR : Addr} {E : DXS} {W : WX}
/-- the first that is equal stands at j -/
structure RemAt (f : Ans) (xs : List D) (y : D) (j : Nat) : Prop where
  lt : j < xs.length
  no : ∀ i d, i < j → xs[i]? = some d → f d y = some false
  yes : ∀ d, xs[j]? = some d → f d y = some true
def rRemV (K : PySem.W.Frag) (CR : Addr) (f : Ans) : V → List V → Hp → VK → Prop := fun x vs H Q => ∃ (P : Addr → Prop) (p : Addr) (xs : List D) (y : D) (M : Mem) (Qd : DK) (j : Nat) (v : V),
  x = .ref p ∧ vs = [v] ∧ M p = some (.lst xs) ∧ Good ⟨K, CR, P⟩ H M ∧ Rep ⟨K, CR, P⟩ H M y v ∧ RemAt f xs y j ∧ Qd .non (mput M p (.lst (xs.eraseIdx j))) ∧ ∀ v H', LfV ⟨K, CR, P⟩ H M Qd v H' → Q v H'
theorem reps_erase {O : Own} {H M} : ∀ {ds : List D} {vs : List V} (j : Nat), Reps O H M ds vs → Reps O H M (ds.eraseIdx j) (vs.eraseIdx j)
  | [], vs, j, h => by rw [show vs = [] from h]; exact rfl
  | d :: ds, vs, 0, h => by
    obtain ⟨v, r, rfl, h1, h2⟩ := h
    exact h2
  | d :: ds, vs, j + 1, h => by
    obtain ⟨v, r, rfl, h1, h2⟩ := h
    exact ⟨v, _, rfl, h1, reps_erase j h2⟩
theorem mt_remT {k : Nat} {f : Ans} (hf : EqOk X CR k f) (hr : Room (k + 1) X.A) : MtM X "list.remove" (rRemV X.K CR f) := by
  intro pins s σ H x vs v us Q I rx rv h
  obtain ⟨P, p, xs, y, M, Qd, j, vy, rfl, rfl, em, g, ry, hRem, q, kk⟩ := h
  obtain rfl : v = Value.ref p := rx
  obtain ⟨u, rfl, ru⟩ := rv.one
  obtain ⟨vs0, eh0, rs0⟩ := g.at_ p _ em
  obtain ⟨z0, its0, n0, r0, hl0, e0⟩ := I.lstM eh0
  have sb : Sub X (k + 1) X.A := ⟨hr, rfl⟩
  refine GQ.call_here PySem.F.slot_list_remove ⟨_, e0, rfl⟩ PySem.F.entry_list_remove (PySem.F.args_list_remove_2 _ _) ?_
  refine removeG p u xs.length (fun i => decide (i = j)) (fun i s' => i ≤ j + 1 ∧ ∃ H', Inv X pins σ H' s' ∧ Fz ⟨X.K, CR, P⟩ H M H' M ∧ Good ⟨X.K, CR, P⟩ H' M) j (fun i s' h => ?_) hRem.lt (decide_eq_true rfl) (fun i hi => decide_eq_false (by omega)) (by rw [rs0.length]; exact z0) (fun s' h => ?_) ⟨Nat.zero_le _, H, I, Fz.refl, g⟩
  · obtain ⟨hij, H', I', z', g'⟩ := h
    obtain ⟨vs1, eh1, rs1⟩ := g'.at_ p _ em
    obtain ⟨z1, its1, n1, r1, hl1, e1⟩ := I'.lstM eh1
    have len1 : its1.length = xs.length := by rw [← hl1, rs1.length]
    refine ⟨its1.toArray, n1, e1, by rw [List.size_toArray]; exact len1, fun hi hj1 => ?_⟩
    have hix : i < xs.length := by rw [List.size_toArray] at hi; omega
    obtain ⟨w, ew, rw'⟩ := rs1.get (List.getElem?_eq_getElem hix)
    obtain ⟨t, et, rt⟩ := r1.get ew
    have ai : its1.toArray[i] = t := by
      have : its1[i]? = some t := et
      rw [List.getElem?_eq_getElem (by omega)] at this
      simpa using Option.some.inj this
    rw [ai]
    have ha : f xs[i] y = some (decide (i = j)) := by
      by_cases e : i = j
      · rw [decide_eq_true e]; exact hRem.yes _ (e ▸ List.getElem?_eq_getElem hix)
      · rw [decide_eq_false e]; exact hRem.no i _ (by omega) (List.getElem?_eq_getElem hix)
    refine wpAny_mono (hf X.A.in1 pins s' σ H' P M _ _ w vy t u _ sb.in1 I' rt ru g' rw' (ry.mono z') ha) (fun r s2 q2 => ?_) fun _ _ z => z
    obtain ⟨hr2, H2, I2, z2, g2⟩ := q2
    exact ⟨hr2, by omega, H2, I2, z'.trans z2, g2⟩
  · obtain ⟨hij, H', I', z', g'⟩ := h
    obtain ⟨vs1, eh1, rs1⟩ := g'.at_ p _ em
    obtain ⟨z1, its1, n1, r1, hl1, e1⟩ := I'.lstM eh1
    have z3 : Fz ⟨X.K, CR, P⟩ H' M (upd H' p (.lst (vs1.eraseIdx j))) (mput M p (.lst (xs.eraseIdx j))) := fz_put g' em
    refine ⟨.non, _, I'.lset (its' := its1.eraseIdx j) (f := fun a => a.eraseIdxIfInBounds j) eh1 e1 ?_ (r1.eraseIdx j) ?_, rfl, kk _ _ ⟨.non, _, z'.trans z3, good_put g' (g'.noP em) z3 (show RepO _ _ _ p (.lst _) from ⟨_, upd_same, (reps_erase j rs1).mono z3⟩), rfl, q⟩⟩
    · show its1.toArray.eraseIdxIfInBounds j = (its1.eraseIdx j).toArray
      rw [List.eraseIdxIfInBounds_toArray]
    · have := len_erase vs1 j
      omega
def rRemD (f : Ans) : D → List D → Mem → DK → Prop := fun o ds M Q => ∃ p xs y j, o = .ref p ∧ ds = [y] ∧ M p = some (.lst xs) ∧ RemAt f xs y j ∧ Q .non (mput M p (.lst (xs.eraseIdx j)))
def dRem (f : Ans) (w : DE) (t : DA) : DE := fun δ M Q => w δ M fun o M1 => isLstD o M1 ∧ t δ M1 fun ds M2 => rRemD f o ds M2 Q
theorem d_rem {f : Ans} {e : Expr} {w : DE} {t : DA} (h : PE X e (tBM X.K "list" (rRemV X.K CR f) (lE (bs X CR E W) w) (lA (bs X CR E W) t))) : PD X (bs X CR E W) e (dRem f w t) := by
  refine h.imp fun σ H Q h => ?_
  obtain ⟨P, δ, M, Qd, hS, g, x, w, k⟩ := h
  refine ⟨P, δ, M, _, hS, g, x, w, fun v H1 ⟨d, M1, z1, g1, r1, ⟨p, xs, ed, em⟩, q⟩ => ?_⟩
  subst ed
  obtain ⟨vs, eh, rs⟩ := g1.at_ p _ em
  rw [show v = .ref p from r1]
  refine ⟨.inl ⟨rfl, vs, .of eh⟩, P, δ, M1, _, hS.mono z1, g1, x.trans z1, q, fun us H2 ds M2 z2 g2 rs2 q2 => ?_⟩
  obtain ⟨p', xs', y, j, ep, rfl, em', hRem, q3⟩ := q2
  cases ep
  obtain ⟨u, r, rfl, r1', r2⟩ := rs2
  exact ⟨P, p, xs', y, M2, Qd, j, u, rfl, by rw [show r = [] from r2], em', g2, r1', hRem, q3, fun v H' l => k _ _ (l.trans (z1.trans z2))⟩
/-- list.pop at a place -/
def rPopD : D → List D → Mem → DK → Prop := fun o ds M Q => ∃ p xs i y, o = .ref p ∧ ds = [.int (i : Nat)] ∧ M p = some (.lst xs) ∧ i < 1000000 ∧ xs[i]? = some y ∧ Q y (mput M p (.lst (xs.eraseIdx i)))
def dPop (w : DE) (t : DA) : DE := fun δ M Q => w δ M fun o M1 => isLstD o M1 ∧ t δ M1 fun ds M2 => rPopD o ds M2 Q
theorem d_pop {e : Expr} {w : DE} {t : DA} (h : PE X e (tBM X.K "list" rPopAt (lE (bs X CR E W) w) (lA (bs X CR E W) t))) : PD X (bs X CR E W) e (dPop w t) := by
  refine h.imp fun σ H Q h => ?_
  obtain ⟨P, δ, M, Qd, hS, g, x, w, k⟩ := h
  refine ⟨P, δ, M, _, hS, g, x, w, fun v H1 ⟨d, M1, z1, g1, r1, ⟨p, xs, ed, em⟩, q⟩ => ?_⟩
  subst ed
  obtain ⟨vs, eh, rs⟩ := g1.at_ p _ em
  rw [show v = .ref p from r1]
  refine ⟨.inl ⟨rfl, vs, .of eh⟩, P, δ, M1, _, hS.mono z1, g1, x.trans z1, q, fun us H2 ds M2 z2 g2 rs2 q2 => ?_⟩
  obtain ⟨p', xs', i, y, ep, rfl, em', hi, ey, q3⟩ := q2
  cases ep
  obtain ⟨u, r, rfl, r1', r2⟩ := rs2
  obtain ⟨vs', eh', rs'⟩ := g2.at_ p _ em'
  obtain ⟨v, ev, rv⟩ := rs'.get ey
  have z3 : Fz ⟨X.K, CR, P⟩ H2 M2 (upd H2 p (.lst (vs'.eraseIdx i))) (mput M2 p (.lst (xs'.eraseIdx i))) := fz_put g2 em'
  have hl : i < vs'.length := (List.getElem?_eq_some_iff.mp ev).1
  have hs : seqIndex? (i : Int) vs'.length = some i := by
    have := PyProof.Rows.seqIndex_at (i := (i : Int)) (n := vs'.length) (by omega) (by omega)
    rw [this, Int.toNat_natCast]
  refine ⟨p, vs', (i : Int), i, v, rfl, by rw [show r = [] from r2, show u = .int _ from r1'], eh', by omega, by omega, hs, ev, ?_⟩
  exact k _ _ ⟨y, _, (z1.trans z2).trans z3, good_put g2 (g2.noP em') z3 (show RepO _ _ _ p (.lst _) from ⟨_, upd_same, (reps_erase i rs').mono z3⟩), rv.mono z3, q3⟩
/-- == of terms: a weight and a row -/
def ansTm : Ans := fun a b => match a, b with
  | .rat p, .rat q => some (decide (p = q))
  | .tup xs, .tup ys => ansT ansR (.tup xs) (.tup ys)
  | _, _ => none
theorem eqOk_mono {k m : Nat} {f : Ans} (h : EqOk X CR k f) (hk : k ≤ m) : EqOk X CR m f := fun A pins s σ H P M a b x y u v r sb => h A pins s σ H P M a b x y u v r (sb.mono hk)
theorem eqOk_tm (T : RatT X.prog X.w X.K X.mg X.base CR) : EqOk X CR 39 ansTm := fun A pins s σ H P M a b x y u v r sb I ru rv g ra rb h => by
  unfold ansTm at h
  split at h
  · exact eqOk_mono (eqOk_rat T) (by decide) A pins s σ H P M _ _ x y u v r sb I ru rv g ra rb (by unfold ansR; exact h)
  · exact eqOk_tup (eqOk_rat T) refl_rat A pins s σ H P M _ _ x y u v r sb I ru rv g ra rb h
  · cases h
theorem refl_tm : AnsRefl ansTm := fun O H M d e x r h1 h2 h => by
  unfold ansTm at h
  split at h
  · exact refl_rat O H M _ _ x r h1 h2 (by unfold ansR; exact h)
  · exact refl_tup refl_rat O H M _ _ x r h1 h2 h
  · cases h
theorem eqOk_term (T : RatT X.prog X.w X.K X.mg X.base CR) : EqOk X CR 40 (ansT ansTm) := eqOk_tup (eqOk_tm T) refl_tm
theorem d_remT {k : Nat} (T : RatT X.prog X.w X.K X.mg X.base CR) (hr : Room k X.A) (hk : 41 ≤ k := by decide) : MtM X "list.remove" (rRemV X.K CR (ansT ansTm)) := mt_remT (eqOk_term T) (hr.mono hk)
end
/-! ### texts -/
theorem hu65 {A : Around} {k : Nat} (hr : Room k A) : A.units + 65 < cLine := by have := hr.un; omega
theorem reps_strs {O : Own} {H M} : ∀ ns : List Str, Reps O H M (ns.map D.str) (ns.map V.str)
  | [] => rfl
  | n :: ns => ⟨_, _, rfl, rfl, reps_strs ns⟩
section
variable {X : Cx} {CR : Addr} {E : DXS} {W : WX} {pos apos : Pos} {o e : Expr} {w v : DE}
def dSplit (w v : DE) : DE := fun δ M Q => w δ M fun x M1 => (∃ a, x = .str a) ∧ v δ M1 fun y M2 => ∃ a b, x = .str a ∧ y = .str b ∧ (b.length == 0) = false ∧ a.length + 2 ≤ sizeLine ∧ Q (.lst ((Txt.split a b).map D.str)) M2
theorem d_split (ho : PD X (bs X CR E W) o w) (he : PD X (bs X CR E W) e v) (hs : starEach [e] X.env = [(false, eval e X.env)] := by rfl) (hbase : attributeBase o "split" X.env (eval o X.env) = eval o X.env := by rfl) (hline : (apos.endLine == pos.line) = true := by rfl) : PD X (bs X CR E W) (.Call (.Attribute o "split" apos) [e] [] pos) (dSplit w v) := by
  refine (pe_split ho he hs hbase hline).imp fun σ H Q h => ?_
  obtain ⟨P, δ, M, Qd, hS, g, x, w, k⟩ := h
  refine ⟨P, δ, M, _, hS, g, x, w, fun vx H1 ⟨d, M1, z1, g1, r1, ⟨a, ea⟩, q⟩ => ?_⟩
  subst ea
  rw [show vx = .str a from r1]
  refine ⟨⟨a, rfl⟩, P, δ, M1, _, hS.mono z1, g1, x.trans z1, q, fun vy H2 ⟨d2, M2, z2, g2, r2, a', b, e1, e2, hb, hl, q2⟩ => ?_⟩
  cases e1
  subst e2
  rw [show vy = .str b from r2]
  exact ⟨a, b, rfl, rfl, hb, hl, fun p hp => k _ _ ((newL g2 hp (reps_strs _) q2).trans (z1.trans z2))⟩
def dStarts (w v : DE) : DE := fun δ M Q => w δ M fun x M1 => (∃ a, x = .str a) ∧ v δ M1 fun y M2 => ∃ a b, x = .str a ∧ y = .str b ∧ Q (.bl (Txt.startswith a b)) M2
theorem d_starts (ho : PD X (bs X CR E W) o w) (he : PD X (bs X CR E W) e v) (hs : starEach [e] X.env = [(false, eval e X.env)] := by rfl) (hbase : attributeBase o "startswith" X.env (eval o X.env) = eval o X.env := by rfl) (hline : (apos.endLine == pos.line) = true := by rfl) : PD X (bs X CR E W) (.Call (.Attribute o "startswith" apos) [e] [] pos) (dStarts w v) := by
  refine (pe_m1 PySem.F.slot_str_startswith PySem.F.type_str_startswith mt_startswith ho he hs hbase hline).imp fun σ H Q h => ?_
  obtain ⟨P, δ, M, Qd, hS, g, x, w, k⟩ := h
  refine ⟨P, δ, M, _, hS, g, x, w, fun vx H1 ⟨d, M1, z1, g1, r1, ⟨a, ea⟩, q⟩ => ?_⟩
  subst ea
  rw [show vx = .str a from r1]
  refine ⟨⟨a, rfl⟩, P, δ, M1, _, hS.mono z1, g1, x.trans z1, q, fun vy H2 ⟨d2, M2, z2, g2, r2, a', b, e1, e2, q2⟩ => ?_⟩
  cases e1
  subst e2
  rw [show vy = .str b from r2]
  exact ⟨a, b, rfl, rfl, k _ _ ((lf_bl g2 q2).trans (z1.trans z2))⟩
/-- slices of a text -/
def dSlS (w : DE) (l u : DO) : DE := fun δ M Q => w δ M fun d M1 => l δ M1 fun lo M2 => u δ M2 fun hi M3 => ∃ z, d = .str z ∧ z.length ≤ sizeLine ∧ Q (.str (cutS z lo hi)) M3
theorem d_slS {lo hi : Option Expr} {l u : DO} {p2 : Pos} (he : PD X (bs X CR E W) e w) (hl : PDO X (bs X CR E W) lo l) (hu : PDO X (bs X CR E W) hi u) : PD X (bs X CR E W) (.Subscript e (.Slice lo hi none p2) pos) (dSlS w l u) := by
  refine (pe_slice sl_str he hl hu).imp fun σ H Q h => ?_
  obtain ⟨P, δ, M, Qd, hS, g, x, w, k⟩ := h
  refine ⟨P, δ, M, _, hS, g, x, w, fun v H1 ⟨d, M1, z1, g1, r1, q1⟩ => ?_⟩
  refine ⟨P, δ, M1, _, hS.mono z1, g1, x.trans z1, q1, fun o H2 M2 z2 g2 q2 => ?_⟩
  refine ⟨P, δ, M2, _, (hS.mono z1).mono z2, g2, (x.trans z1).trans z2, q2, fun o2 H3 M3 z3 g3 q3 => ?_⟩
  obtain ⟨z, rfl, hz, q⟩ := q3
  rw [show v = .str z from r1]
  exact ⟨z, rfl, hz, k _ _ ((lf_str g3 q).trans ((z1.trans z2).trans z3))⟩
def rIntS : DC := fun ds M Q => ∃ a n, ds = [.str a] ∧ PySem.intText? a = some n ∧ a.length ≤ 640 ∧ Q (.int n) M
theorem c_intS : CallR X (.type "int") (lC X.K CR rIntS) := call_int_str.imp fun xs H Q hh => by
  obtain ⟨P, ds, M, Qd, rs, gd, ⟨a, n, rfl, h1, h2, q⟩, k⟩ := hh
  obtain ⟨v, r, rfl, r1, r2⟩ := rs
  rw [show r = [] from r2, show v = _ from r1]
  exact ⟨a, n, rfl, h1, h2, k _ _ (lf_int gd q)⟩
def rStrI : DC := fun ds M Q => ∃ i : Int, ds = [.int i] ∧ i.natAbs.log2 < 1920 ∧ Q (.str (Str.ofString (toString i))) M
theorem c_str : CallR X (.type "str") (lC X.K CR rStrI) := call_str_int.imp fun xs H Q hh => by
  obtain ⟨P, ds, M, Qd, rs, gd, ⟨i, rfl, h1, q⟩, k⟩ := hh
  obtain ⟨v, r, rfl, r1, r2⟩ := rs
  rw [show r = [] from r2, show v = _ from r1]
  exact ⟨i, rfl, h1, k _ _ (lf_str gd q)⟩
def rMax2 : DC := fun ds M Q => ∃ i j : Int, ds = [.int i, .int j] ∧ Q (.int (if j > i then j else i)) M
theorem c_max2 (hc : X.calm = true) : CallR X (.builtin "max") (lC X.K CR rMax2) := (call_max2 hc).imp fun xs H Q hh => by
  obtain ⟨P, ds, M, Qd, rs, gd, ⟨i, j, rfl, q⟩, k⟩ := hh
  obtain ⟨v, r, rfl, r1, v2, r2, rfl, r3, r4⟩ := rs
  rw [show r2 = [] from r4, show v = _ from r1, show v2 = _ from r3]
  exact ⟨i, j, rfl, k _ _ (lf_int gd q)⟩
/-- x in [..] of plain data -/
def rInP : D2 := fun a b M Q => ∃ ds : List D, b = .lst ds ∧ plD a 8 = true ∧ plD b 8 = true ∧ ∀ k : Bool, (k = true ↔ a ∈ ds) → Q (.bl k) M
theorem any_eqv {a : D} {n : Nat} (ha : plD a 8 = true) : ∀ {ds : List D}, plDs ds n = true → ((datDs ds).any (fun z => PyData.eqv z (datD a)) = true ↔ a ∈ ds)
  | [], _ => by simp [datDs]
  | d :: ds, h => by
    have h1 : plD d n = true ∧ plDs ds n = true := by
      have : (plD d n && plDs ds n) = true := h
      exact Bool.and_eq_true_iff.mp this
    show ((PyData.eqv (datD d) (datD a) || (datDs ds).any fun z => PyData.eqv z (datD a)) = true ↔ _)
    rw [Bool.or_eq_true, eqv_iff h1.1 ha, any_eqv ha h1.2, List.mem_cons]
    constructor
    · rintro (h | h)
      · exact .inl h.symm
      · exact .inr h
    · rintro (h | h)
      · exact .inl h.symm
      · exact .inr h
theorem o_inP (hu : X.A.units + 65 < cLine) : OpR X (compareOp .In) (l2 X.K CR rInP) := (op_inD hu).imp fun x y H Q hh => by
  obtain ⟨P, a, b, M, Qd, ra, rb, gd, ⟨ds, rfl, pa, pb, q⟩, k⟩ := hh
  exact ⟨_, _, dp_of pa ra, dp_of pb rb, shaped_of pa, shaped_of pb, k _ _ (lf_bl gd (q _ (any_eqv (n := 7) pa pb)))⟩
/-- a text times a number -/
def rMulS : D2 := fun a b M Q => ∃ (z : Str) (n : Int), a = .str z ∧ b = .int n ∧ PySem.MulOk z n ∧ Q (.str (Txt.mul z n)) M
theorem o_mulS : OpR X (binaryOp .Mult) (l2 X.K CR rMulS) := by
  intro pins s σ H x y v u Q I rx ry h
  obtain ⟨P, a, b, M, Qd, ra, rb, g, ⟨z, n, rfl, rfl, hm, q⟩, kk⟩ := h
  obtain rfl : x = V.str z := ra
  obtain rfl : y = V.int n := rb
  obtain ⟨t, rfl⟩ := rx
  obtain ⟨t', rfl⟩ := ry
  exact PySem.SB.mul hm fun t2 k => ⟨.str (Txt.mul z n), H, I.tok _, ⟨_, rfl⟩, kk _ _ (lf_str g q)⟩
/-! f-strings -/
def dFmt (w : DE) : DE := fun δ M Q => w δ M fun x M1 => (∃ y : Str, x = .str y ∧ y.length ≤ sizeLine ∧ Q (.str y) M1) ∨ ∃ i : Int, x = .int i ∧ i.natAbs.log2 < 1920 ∧ Q (.str (Str.ofString (toString i))) M1
theorem d_fmt (he : PD X (bs X CR E W) e w) : PD X (bs X CR E W) (.FormattedValue e (-1) none pos) (dFmt w) := by
  refine (pe_fmt he).imp fun σ H Q h => ?_
  obtain ⟨P, δ, M, Qd, hS, g, x, w, k⟩ := h
  refine ⟨P, δ, M, _, hS, g, x, w, fun vx H1 ⟨d, M1, z1, g1, r1, q⟩ => ?_⟩
  rcases q with ⟨y, rfl, hl, q⟩ | ⟨i, rfl, hl, q⟩
  · rw [show vx = .str y from r1]; exact .inl ⟨y, rfl, hl, k _ _ ((lf_str g1 q).trans z1)⟩
  · rw [show vx = .int i from r1]; exact .inr ⟨i, rfl, hl, k _ _ ((lf_str g1 q).trans z1)⟩
inductive PJD (X : Cx) (B : Bs) : List Expr → List DE → Prop where
  | nil : PJD X B [] []
  | cons {e : Expr} {w : DE} {es : List Expr} {ws : List DE} (h : PD X B e w) (r : PJD X B es ws) : PJD X B (e :: es) (w :: ws)
def dJs : List DE → Str → DS0 → Mem → (Str → Mem → Prop) → Prop
  | [], acc, _, M, Q => Q acc M
  | w :: ws, acc, δ, M, Q => w δ M fun x M1 => ∃ y : Str, x = .str y ∧ (acc ++ y).length ≤ sizeLine ∧ dJs ws (acc ++ y) δ M1 Q
def dJoin (ws : List DE) : DE := fun δ M Q => dJs ws Str.empty δ M fun out M1 => Q (.str out) M1
theorem PJD.pj {B : Bs} {es : List Expr} {ws : List DE} (h : PJD X B es ws) : PJ X es (ws.map (lE B)) := by
  induction h with
  | nil => exact .nil
  | cons h r ih => exact .cons h ih
theorem js_of {P : Addr → Prop} {B : Bs} {σ : L2.St} {δ : DS0} {Q : Str → Hp → Prop} {Qd : Str → Mem → Prop} : ∀ (ws : List DE) (acc : Str) (H : Hp) (M : Mem), RepS ⟨B.K, B.CR, P⟩ H M δ σ → Good ⟨B.K, B.CR, P⟩ H M → XL ⟨B.K, B.CR, P⟩ H M B.E B.W → dJs ws acc δ M Qd → (∀ out H' M', Fz ⟨B.K, B.CR, P⟩ H M H' M' → Good ⟨B.K, B.CR, P⟩ H' M' → Qd out M' → Q out H') → tJs (ws.map (lE B)) acc σ H Q
  | [], acc, H, M, hS, g, x, h, k => k acc H M Fz.refl g h
  | w :: ws, acc, H, M, hS, g, x, h, k => by
    refine ⟨P, δ, M, _, hS, g, x, h, fun vx H1 ⟨d, M1, z1, g1, r1, y, ey, hl, q⟩ => ?_⟩
    subst ey
    exact ⟨y, r1, hl, js_of ws _ H1 M1 (hS.mono z1) g1 (x.trans z1) q fun out H' M' z g' q' => k out H' M' (z1.trans z) g' q'⟩
theorem d_join {v1 v2 : Expr} {rest : List Expr} {ws : List DE} (h : PJD X (bs X CR E W) (v1 :: v2 :: rest) ws) : PD X (bs X CR E W) (.JoinedStr (v1 :: v2 :: rest) pos) (dJoin ws) := by
  refine (pe_joined h.pj).imp fun σ H Q hh => ?_
  obtain ⟨P, δ, M, Qd, hS, g, x, w, k⟩ := hh
  exact js_of ws _ H M hS g x w fun out H' M' z g' q => k _ _ ⟨.str out, M', z, g', rfl, q⟩
/-! str of a fraction -/
def rStrR (sp : DSp) : DC := fun ds M Q => (∃ i : Int, ds = [.int i] ∧ i.natAbs.log2 < 1920 ∧ Q (.str (Str.ofString (toString i))) M) ∨ ∃ q, ds = [.rat q] ∧ sp [.rat q] M (fun d M' => (∃ y, d = .str y) ∧ Q d M') noX
theorem c_strR {k : Nat} {sp : DSp} (O : Op1 X.prog X.w X.K X.mg X.base CR "__str__" sp) (hr : Room k X.A) (hk : 40 ≤ k := by decide) : CallR X (.type "str") (lC X.K CR (rStrR sp)) := by
  intro pins s σ H xs us Q I rx ⟨P, ds, M, Qd, rs, g, h, kk⟩
  rcases h with ⟨i, rfl, hl, q⟩ | ⟨q, rfl, h⟩
  · exact c_str pins s σ H xs us Q I rx ⟨P, _, M, Qd, rs, g, ⟨i, rfl, hl, q⟩, kk⟩
  · obtain ⟨f, fd, F, hb, hs, hf⟩ := O.ex
    have rs2 := rs
    obtain ⟨x, r0, rfl, ra, r1⟩ := rs
    obtain rfl : r0 = [] := r1
    obtain ⟨a, dx, rfl, _, ha⟩ := ra
    cases rx with
    | cons ru rn =>
      cases rn
      rename_i u
      obtain rfl : u = Value.ref a := ru
      obtain ⟨mA, J, _⟩ := ins_get I.hok ha
      obtain ⟨od, J, _⟩ := J.look
      have hr2 : Room 38 X.A.in1.in1 := ((hr.mono hk).in1).in1
      refine PySem.W.kso_call hr2.units0 I.kIn J hs hf ?_
      refine wpAny_call (codeAny_mono (F.run X.A.in1.in1 X.stack s H ⟨[.ref a], []⟩ [.ref a] [.ref a] (fun v H' => ∃ y, v = .str y ∧ Q v H') E0 hr2 (I.env0.in1).in1 (by simpa using hb s [.ref a] I.kIn rfl) (.cons rfl .nil) (lSp_of (Qd := fun d M' => (∃ y, d = .str y) ∧ Qd d M') g rs2 h fun v H' ⟨d, M', z, g', r, ⟨y, ey⟩, q'⟩ => ?_)) fun r s' hq => ?_)
      · subst ey
        exact ⟨y, r, kk _ _ ⟨_, M', z, g', r, q'⟩⟩
      · cases r with
        | error e => exact passL pins σ H s e s' I hq
        | ok fl =>
          cases fl with
          | ret w =>
            obtain ⟨v, H2, I2, rv, y, ey, q2⟩ := I.after hq
            subst ey
            obtain ⟨t, rfl⟩ := rv
            exact ⟨.str y, H2, I2, ⟨_, rfl⟩, q2⟩
          | next => exact False.elim hq
          | brk => exact False.elim hq
          | cont => exact False.elim hq
end
/-! ### errors with a field -/
def oexB (K : PySem.W.Frag) (C : Addr) : Bool := match K.lookup C with
  | some ⟨.type "type", _, .cls cd, sl⟩ => (match cd.mro, sl.toList with
    | .ref C' :: bm, [_, _, _, _, some (.builtin n), _] => C' == C && n == "ValueError.__new__" && !cd.hasDel && cd.hasDict && PySem.HandSPX.refsVE bm
    | _, _ => false)
  | _ => false
theorem oexB_ok {K : PySem.W.Frag} {C : Addr} (q : oexB K C = true) : ∃ nm q N bs bm sn sub ab col dd k0 k1 k2 k3 k5, K.lookup C = some (excClassObj nm q C N bs bm true sn sub ab col dd k0 k1 k2 k3 k5 "ValueError.__new__") ∧ PySem.HandSPX.refsVE bm = true := by
  unfold oexB at q
  split at q
  · rename_i dd cd sl ho
    split at q
    · rename_i C' bm k0 k1 k2 k3 n k5 hm hs
      simp only [Bool.and_eq_true, beq_iff_eq, Bool.not_eq_true'] at q
      obtain ⟨⟨⟨⟨rfl, rfl⟩, hdel⟩, hd0⟩, ht⟩ := q
      obtain ⟨nm, bs, mro, ns, qn, hd, sn, sub, ab, col, del⟩ := cd
      dsimp only at hm hdel hd0
      subst hm hdel hd0
      have hsl : sl = #[k0, k1, k2, k3, some (.builtin "ValueError.__new__"), k5] := by
        obtain ⟨l⟩ := sl
        simp only at hs
        rw [hs]
      subst hsl
      exact ⟨nm, qn, ns, bs, bm, sn, sub, ab, col, dd, k0, k1, k2, k3, k5, ho, ht⟩
    · cases q
  · cases q
/-- what the text must hold of the error's class: one field f -/
structure ErrF (K : PySem.W.Frag) (mg : Str → Option Value) (x : Str) (C fI : Addr) (f : Str) : Prop where
  o : OexC K C
  g : mg x = some (.ref C)
  iC : PySem.W.findIn K (.ref C) "__init__" = some (some (.ref fI))
  tI : PySem.W.typeIn K (.ref fI) = some (.type "function")
  no : PySem.W.findIn K (.ref C) f = some none
  ga : PySem.W.findIn K (.ref C) "__getattribute__" = some (some (.builtin "BaseException.__getattribute__"))
  gg : PySem.W.findIn K (.ref C) "__getattr__" = some none
  hd : PySem.W.hasDictIn K C = true
  self : PySem.W.exmOne K (.ref C) (.ref C) = some true
def errB (K : PySem.W.Frag) (x f : Str) : Bool :=
  oexB K (He.ga K x) && (He.eqO (PySem.W.findIn K (.ref (He.ga K x)) "__setattr__") (some (some (.builtin "object.__setattr__"))) && (decide (PySem.W.subIn K (.ref (He.ga K x)) (.type "BaseException") = some true) && (decide (PySem.W.typeIn K (.ref (He.ga K x)) = some (.type "type")) && (PySem.W.keepIn K (.ref (He.ga K x)) &&
  (He.eqO (PySem.W.nsIn K mainGlobals x) (some (some (.ref (He.ga K x)))) && (He.eqO (PySem.W.findIn K (.ref (He.ga K x)) "__init__") (some (some (.ref (He.ma K (He.ga K x) "__init__")))) && (decide (PySem.W.typeIn K (.ref (He.ma K (He.ga K x) "__init__")) = some (.type "function")) &&
  (He.eqO (PySem.W.findIn K (.ref (He.ga K x)) f) (some none) && (He.eqO (PySem.W.findIn K (.ref (He.ga K x)) "__getattribute__") (some (some (.builtin "BaseException.__getattribute__"))) && (He.eqO (PySem.W.findIn K (.ref (He.ga K x)) "__getattr__") (some none) && (PySem.W.hasDictIn K (He.ga K x) &&
  decide (PySem.W.exmOne K (.ref (He.ga K x)) (.ref (He.ga K x)) = some true))))))))))))
theorem errB_ok {K : PySem.W.Frag} {h : Heap} {mg : Str → Option Value} {x f : Str} (X : K.In h) (G : h.Ns mainGlobals mg) (c : errB K x f = true) : ErrF K mg x (He.ga K x) (He.ma K (He.ga K x) "__init__") f := by
  obtain ⟨c1, c⟩ := He.ba c
  obtain ⟨c2, c⟩ := He.ba c
  obtain ⟨c3, c⟩ := He.ba c
  obtain ⟨c4, c⟩ := He.ba c
  obtain ⟨c5, c⟩ := He.ba c
  obtain ⟨c6, c⟩ := He.ba c
  obtain ⟨c7, c⟩ := He.ba c
  obtain ⟨c8, c⟩ := He.ba c
  obtain ⟨c9, c⟩ := He.ba c
  obtain ⟨c10, c⟩ := He.ba c
  obtain ⟨c11, c⟩ := He.ba c
  obtain ⟨c12, c13⟩ := He.ba c
  exact ⟨⟨oexB_ok c1, He.eqO_ok c2, of_decide_eq_true c3, of_decide_eq_true c4, c5⟩, PySem.W.mg_of X G (He.eqO_ok c6), He.eqO_ok c7, of_decide_eq_true c8, He.eqO_ok c9, He.eqO_ok c10, He.eqO_ok c11, c12, of_decide_eq_true c13⟩
/-- its __init__ -/
def spOe (C : Addr) (f : Str) : Sp := fun vs H Q _ => ∃ a v, vs = [.ref a, v] ∧ H a = some (exo a C none) ∧ ∀ dx, H dx = none → dx ≠ a → Q .non (upd (upd H dx (exd dx [(f, v)])) a (exo a C (some dx)))
/-- .. with its __init__ walked -/
structure ErrT (P : Program) (w : World) (K : PySem.W.Frag) (mg : Str → Option Value) (base : Heap) (x : Str) (C : Addr) (f : Str) : Prop where
  ex : ∃ fI fd p, ErrF K mg x C fI f ∧ FnOk P w K mg base (L2.CX P w) 2 fI fd ["self", p] (spOe C f) ∧ Binds K fd ["self", p] []
theorem ErrT.self {P w K mg base x C f} (T : ErrT P w K mg base x C f) : PySem.W.exmOne K (.ref C) (.ref C) = some true := let ⟨_, _, _, e, _⟩ := T.ex; e.self
theorem ErrT.g {P w K mg base x C f} (T : ErrT P w K mg base x C f) : mg x = some (.ref C) := let ⟨_, _, _, e, _⟩ := T.ex; e.g
section
variable {P : Program} {w : World} {K : PySem.W.Frag} {mg : Str → Option Value} {base : Heap} {CR C fI : Addr}
theorem okOe {x qual p fld : Str} {st : Stmt} {f : Addr} {fd : FuncData} {kws : List (Str × V)} (F : FunD K x qual (defArgs st) (defBody st) (defScope st) [] kws f fd) (S : FnScope ["self", p] ["self", p] (defScope st)) (T : OexC K C) (no : PySem.W.findIn K (.ref C) fld = some none)
    (der : ∀ (cdv : Value) (A : Around) (outer : List Env) (s : Shared) (H : Hp) (E : XK), PSs (cxOf (L2.CX P w) P w K mg base ["self", p] qual (defScope st) f cdv A outer s H E).nox (defBody st) (tOst K fld (tVar 0) (tVar 1))) : FnOk P w K mg base (L2.CX P w) 2 f fd ["self", p] (spOe C fld) := by
  refine F.ok (k := 1) S (fun vs H Q E h => ?_) (fun cdv A outer s H vs Q E hr h => ⟨tOst K fld (tVar 0) (tVar 1), (der cdv A outer s H E).nox, ?_⟩)
  · obtain ⟨a, v, rfl, _⟩ := h; rfl
  · obtain ⟨a, v, rfl, h0, hq⟩ := h
    exact ⟨_, rfl, _, rfl, a, C, rfl, T, no, .inl ⟨h0, fun dx hd hne => hq dx hd hne⟩⟩
theorem errT_of {x qual p fld : Str} {st : Stmt} {fd : FuncData} (e : ErrF K mg x C fI fld) (F : FunD K "__init__" qual (defArgs st) (defBody st) (defScope st) [] [] fI fd) (ok : FnOk P w K mg base (L2.CX P w) 2 fI fd ["self", p] (spOe C fld))
    (h : ∀ (kV doc pm : Value) (an : Option Addr) (cdv ct a b : Value), bindArgs (PySem.W.fnOf "__init__" qual (defArgs st) (defBody st) (defScope st) .none kV doc pm an cdv ct) ⟨[a, b], []⟩ = pure ((["self", p] : List Str).zip [a, b])) : ErrT P w K mg base x C fld :=
  ⟨fI, fd, p, e, ok, F.bindsN fun kV doc pm an cdv ct us hl => match us, hl with | [a, b], _ => h kV doc pm an cdv ct a b⟩
end
section
variable {X : Cx} {CR C : Addr} {E : DXS} {W : WX} {pos p p2 pos' : Pos} {x f : Str} {e : Expr} {w : DE}
def dRaiseF (C : Addr) (f : Str) (w : DE) (E : DXS) : DSt := fun _ δ M => w δ M fun y M1 => E C [f] [y] δ M1
theorem s_raiseF {k : Nat} (T : ErrT X.prog X.w X.K X.mg X.base x C f) (tk : Takes X W) (hr : Room k X.A) (he : PD X (bs X CR E W) e w) (hc : X.calm = true := by rfl) (hg : Gl X x := by rfl) (hk : 3 ≤ k := by decide)
    (hdb : (x == ("__debug__" : Str)) = false := by decide) (hs : starEach (e :: []) X.env = (false, eval e X.env) :: starEach [] X.env := by rfl) (hpl : (backTo pos (starEach [] X.env)).any (·.1) = false := by rfl) :
    PDS X (bs X CR E W) (.Raise (some (.Call (.Name x p) [e] [] pos)) none pos') (dRaiseF C f w E) := by
  obtain ⟨fI, fd, pn, t, F, hb⟩ := T.ex
  refine (ps_raise hc tk (pmk_oex t.o t.iC t.tI F (hr.mono hk) hb .nil passL hg t.g (pa_cons he pa_nil hs) hdb hs hpl)).imp fun Dn σ H h => ?_
  obtain ⟨P, δ, M, Dd, hS, g, xl, w, k⟩ := h
  refine ⟨P, δ, M, _, hS, g, xl, w, fun v H1 ⟨y, M1, z1, g1, r1, q⟩ => ⟨(by show 1 ≤ 1000; decide), fun a ha => ⟨a, v, rfl, upd_same, fun dx hd hne => ⟨rfl, dx, [(f, v)], upd_same, ?_, ?_, ?_⟩⟩⟩⟩
  · rw [upd_ne hne]; exact upd_same
  · have := hd; rw [upd_ne hne] at this; exact this
  · have hd1 : H1 dx = none := by have := hd; rw [upd_ne hne] at this; exact this
    have eH : upd (L2.del (upd (upd (upd H1 a (exo a C none)) dx (exd dx [(f, v)])) a (exo a C (some dx))) a) dx (.xd [(f, v)]) = upd H1 dx (.xd [(f, v)]) := by
      funext b
      by_cases h1 : b = dx
      · rw [h1, upd_same, upd_same]
      · rw [upd_ne h1, upd_ne h1]
        by_cases h2 : b = a
        · rw [h2, L2.del_same]; exact ha.symm
        · rw [L2.del_ne h2, upd_ne h2, upd_ne h1, upd_ne h2]
    rw [eH]
    have z2 : Fz ⟨X.K, CR, P⟩ H1 M1 (upd H1 dx (.xd [(f, v)])) M1 := fz_new g1 hd1
    have fr := g1.none hd1
    refine xl (.ref C) (some dx) σ _ ⟨C, [f], [y], δ, M1, rfl, z1.trans z2, good_new g1 hd1, (hS.mono z1).mono z2, ?_, q⟩
    exact .inr ⟨by simp, dx, [v], rfl, fr, upd_same, rfl, Reps.one (r1.mono z2)⟩
/-- data that tells itself, whatever the memory -/
def flatD : D → Bool
  | .non => true | .bl _ => true | .int _ => true | .str _ => true | _ => false
def flatV1 : D → V
  | .bl b => .bl b | .int i => .int i | .str x => .str x | _ => .non
theorem flat_rep {O : Own} {H M} {d : D} {v : V} (h : flatD d = true) (r : Rep O H M d v) : v = flatV1 d := by
  cases d <;> first | exact r | cases h
theorem rep_flat {O : Own} {H M} {d : D} (h : flatD d = true) : Rep O H M d (flatV1 d) := by
  cases d <;> first | exact rfl | cases h
/-- the error that is caught: its dict stands -/
def Held (d : Option Addr) (f : Str) (y : D) (H : Hp) : Prop := ∃ dd, d = some dd ∧ H dd = some (.xd [(f, flatV1 y)])
/-- try: .. except Z as n: .., errors with one flat field each -/
def dTryF (C : Addr) (f : Str) (i : Nat) (wb : DXS → DSt) (ws : Addr → D → DSt) : DSt := fun Dn δ M => wb (fun C' ns fs δ' M' => C' = C ∧ ∃ y, ns = [f] ∧ fs = [y] ∧ flatD y = true ∧ ∀ a, ws a y { nx := fun δ2 M2 => Dn.nx (δ2.set i none) M2, rt := Dn.rt, bk := fun δ2 M2 => Dn.bk (δ2.set i none) M2, ct := fun δ2 M2 => Dn.ct (δ2.set i none) M2 } (δ'.set i (some (.ref a))) M') Dn δ M
theorem errD_one {O : Own} {H M} {d : Option Addr} {f : Str} {y : D} (h : ErrD O H M d [f] [y]) (hf : flatD y = true) : Held d f y H ∧ ∃ dd, d = some dd ∧ Fre O M dd := by
  rcases h with ⟨h, _⟩ | ⟨_, dd, vs, e, fr, eh, hl, r⟩
  · cases h
  · obtain ⟨v, r0, rfl, r1, r2⟩ := r
    rw [show r0 = [] from r2, flat_rep hf r1] at eh
    exact ⟨⟨dd, e, eh⟩, dd, e, fr⟩
abbrev tru : DXS := fun _ _ _ _ _ => True
theorem s_tryF {n : Str} {i : Nat} {body suite : List Stmt} {b0 : Stmt} {np : Pos} {wb : DXS → DSt} {ws : Addr → D → DSt} (T : ErrT X.prog X.w X.K X.mg X.base x C f) (hc : Names X x (.ref C)) (tk : Takes X W) (hN : X.N.Nodup)
    (hb : ∀ (E' : DXS) (W' : WX) (pn : List (Addr × Obj)) (xe : Value → Shared → Prop), Takes (X.tr pn xe) W' → PassesOwn (model X.prog X.w) X.A X.env xe → PDSs (X.tr pn xe) (bs X CR E' W') body (wb E'))
    (hsu : ∀ (a : Addr) (oe : Obj) (d : Option Addr) (y : D) (W' : WX) (pn : List (Addr × Obj)), Zc (.ref C) d oe → (∃ vs, oe.data = .fields vs) → flatD y = true → (∀ c d' σ' H', W' c d' σ' H' → Held d f y H') → PDSs (X.suite a ((a, oe) :: pn)) (bs X CR tru W') (b0 :: suite) (ws a y))
    (hi : X.N[i]? = some n := by rfl) (hln : X.env.kindOf n = some .local := by rfl) (hs : X.stack = X.env :: X.outer := by rfl) (hf : X.env.frame = some X.env.locals := by rfl) :
    PDS X (bs X CR E W) (.Try body [.ExceptHandler (some (.Name x np)) (some n) (b0 :: suite) pos'] [] [] pos) (dTryF C f i wb ws) := by
  refine (ps_try_as (tb := fun W' Dn σ H => ∃ E', lS (bs X CR E' W') (wb E') Dn σ H) (ts := fun a cls d Dn σ H => ∃ (y : D) (W' : WX), cls = .ref C ∧ flatD y = true ∧ (∀ c d' σ' H', W' c d' σ' H' → Held d f y H') ∧ lS (bs X CR tru W') (ws a y) Dn σ H) (Wout := W) hs hf hN hi hln hc tk
    (fun W' pn xe tk' po => ⟨fun p s σ H Dn I ⟨E', q⟩ => (hb E' W' pn xe tk' po).run p s σ H Dn I q⟩) (fun a oe cls d pn hz hv => ⟨fun p s σ H Dn I ⟨y, W', h1, h2, h3, q⟩ => by
      subst h1
      exact (hsu a oe d y W' pn hz hv h2 h3).run p s σ H Dn I q⟩)).imp fun Dn σ H h => ?_
  obtain ⟨P, δ, M, Dd, hS, g, xl, w, k⟩ := h
  refine ⟨_, P, δ, M, Dd, hS, g, ?_, w, k⟩
  rintro c d σ' H' ⟨C', ns, fs, δ', M', rfl, z, g', hS', er, rfl, y, rfl, rfl, hy, hw⟩
  obtain ⟨hd, dd, ed, fr⟩ := errD_one er hy
  have kt := k.trans z
  refine ⟨true, T.self, fun _ a ha => ⟨y, LfXS ⟨X.K, CR, P⟩ H' M' tru, rfl, hy, fun c d' σ2 H2 ⟨_, _, _, _, M2, _, z2, _⟩ => ?_, P, _, M', _, hS'.set (d := .ref a) (v := .ref a) rfl, g', fun c d' σ2 H2 h => h, hw a, ?_⟩, fun e => by cases e⟩
  · obtain ⟨dd', ed', eh⟩ := hd
    exact ⟨dd', ed', (z2.st dd' _ (by rw [ed] at ed'; cases ed'; exact fr) eh).1⟩
  · exact ⟨fun σ H' ⟨δ2, M2, z2, g2, hS2, q⟩ => kt.nx _ H' ⟨_, M2, z2, g2, hS2.unset, q⟩, kt.rt, fun σ H' ⟨δ2, M2, z2, g2, hS2, q⟩ => kt.bk _ H' ⟨_, M2, z2, g2, hS2.unset, q⟩, fun σ H' ⟨δ2, M2, z2, g2, hS2, q⟩ => kt.ct _ H' ⟨_, M2, z2, g2, hS2.unset, q⟩⟩
/-- what stands in the suite -/
theorem held_at (C : Addr) {P : Addr → Prop} {H : Hp} {M : Mem} {W' : WX} {d : Option Addr} {y : D} {σ : L2.St} {δ : DS0} (xl : XL ⟨X.K, CR, P⟩ H M tru W') (g : Good ⟨X.K, CR, P⟩ H M) (hS : RepS ⟨X.K, CR, P⟩ H M δ σ) (hW : ∀ c d' σ' H', W' c d' σ' H' → Held d f y H') : Held d f y H :=
  hW (.ref C) none σ H (xl (.ref C) none σ H ⟨C, [], [], δ, M, rfl, Fz.refl, g, hS, .inl ⟨rfl, rfl, rfl⟩, trivial⟩)
/-- e.f of the caught error -/
def dErrF (y : D) (w : DE) (a : Addr) : DE := fun δ M Q => w δ M fun d M1 => d = .ref a ∧ Q y M1
theorem d_errF {a : Addr} {oe : Obj} {d : Option Addr} {pn : List (Addr × Obj)} {W' : WX} {y : D} (T : ErrT X.prog X.w X.K X.mg X.base x C f) (hz : Zc (.ref C) d oe) (hv : ∃ vs, oe.data = .fields vs) (hy : flatD y = true) (hW : ∀ c d' σ' H', W' c d' σ' H' → Held d f y H')
    (he : PD (X.suite a ((a, oe) :: pn)) (bs X CR tru W') e w) (hb : attributeBase e f X.env (eval e X.env) = eval e X.env := by rfl) : PD (X.suite a ((a, oe) :: pn)) (bs X CR tru W') (.Attribute e f pos) (dErrF y w a) := by
  obtain ⟨fI, fd, p, t, _⟩ := T.ex
  refine ⟨fun pins s σ H Q I h => ?_⟩
  obtain ⟨P, δ, M, Qd, hS, g, xl, w, k⟩ := h
  refine attr_of hb (thn (he.run pins s σ H (fun v H' => ∃ M', v = .ref a ∧ Fz ⟨X.K, CR, P⟩ H M H' M' ∧ Good ⟨X.K, CR, P⟩ H' M' ∧ Qd y M') I ⟨P, δ, M, _, hS, g, xl, w, fun v H1 ⟨d1, M1, z1, g1, r1, ed, q⟩ => by subst ed; exact ⟨M1, r1, z1, g1, q⟩⟩) fun u s1 hh => ?_)
  obtain ⟨v, H1, I1, rv, M1, ev, z1, g1, q⟩ := hh
  subst ev
  obtain rfl : u = Value.ref a := rv
  obtain ⟨dd, ed, eh⟩ := held_at C (X := X) (f := f) (d := d) (y := y) (xl.trans z1) g1 (hS.mono z1) hW
  subst ed
  obtain ⟨ha, _⟩ := I1.pin (a, oe) (List.mem_append_left _ List.mem_cons_self)
  obtain ⟨vs, hd⟩ := hv
  have hx : ObjOk X.prog X.w H1 s1.heap dd (.xd [(f, flatV1 y)]) := I1.hok dd _ eh
  obtain ⟨mA, hns, hr⟩ := hx
  obtain ⟨od, ho, hl⟩ := lookIn_ns hns
  have l : List.lookup f [(f, flatV1 y)] = some (flatV1 y) := by simp [List.lookup]
  obtain ⟨u, hu, ru⟩ := RelO.some_of (v := flatV1 y) (o := mA f) (by rw [← l]; exact hr f)
  have J : PySem.W.InstAt s1.heap a oe C (some od) := ⟨ha, hz.1, by unfold PySem.W.notCls; rw [hd] <;> rfl, by rw [hz.2]; exact ho⟩
  exact HandSPX.exc_get I1.kIn J t.ga t.gg t.o.exC (PySem.W.findObj_own t.hd t.no rfl (by rw [hl, hu])) (handed_of ru) ⟨flatV1 y, H1, I1.tok _, ru, k _ _ ⟨y, M1, z1, g1, rep_flat hy, q⟩⟩
/-- isinstance(e, c) of it -/
structure ErrI (K : PySem.W.Frag) (mg : Str → Option Value) (x : Str) (C S : Addr) : Prop where
  ic : (PySem.W.clsIn K C).isSome = true
  ha : PySem.W.findIn K (.ref C) "__class__" = some (some (.builtin "object.__class__"))
  hn : PySem.W.specialIn K (.builtin "object.__class__") "__get__" = some (some (.builtin "getset_descriptor.__get__"))
  ht : PySem.W.takesIn K (.builtin "object.__class__") = some true
  hm : PySem.W.mroIn K C (.type "object") = some true
  g : mg x = some (.ref S)
  s : PySem.W.kitOne K (.ref C) (.ref S) = some true
def errIB (K : PySem.W.Frag) (c x : Str) : Bool :=
  (PySem.W.clsIn K (He.ga K c)).isSome && (He.eqO (PySem.W.findIn K (.ref (He.ga K c)) "__class__") (some (some (.builtin "object.__class__"))) && (He.eqO (PySem.W.specialIn K (.builtin "object.__class__") "__get__") (some (some (.builtin "getset_descriptor.__get__"))) && (decide (PySem.W.takesIn K (.builtin "object.__class__") = some true) &&
  (decide (PySem.W.mroIn K (He.ga K c) (.type "object") = some true) && (He.eqO (PySem.W.nsIn K mainGlobals x) (some (some (.ref (He.ga K x)))) && decide (PySem.W.kitOne K (.ref (He.ga K c)) (.ref (He.ga K x)) = some true))))))
theorem errIB_ok {K : PySem.W.Frag} {h : Heap} {mg : Str → Option Value} {c x : Str} (X : K.In h) (G : h.Ns mainGlobals mg) (q : errIB K c x = true) : ErrI K mg x (He.ga K c) (He.ga K x) := by
  obtain ⟨c1, q⟩ := He.ba q
  obtain ⟨c2, q⟩ := He.ba q
  obtain ⟨c3, q⟩ := He.ba q
  obtain ⟨c4, q⟩ := He.ba q
  obtain ⟨c5, q⟩ := He.ba q
  obtain ⟨c6, c7⟩ := He.ba q
  exact ⟨c1, He.eqO_ok c2, He.eqO_ok c3, of_decide_eq_true c4, of_decide_eq_true c5, PySem.W.mg_of X G (He.eqO_ok c6), of_decide_eq_true c7⟩
def rIsF (X : Cx) (CR S a : Addr) (W' : WX) : List V → Hp → VK → Prop := fun xs H Q => ∃ M P δ σ, xs = [.ref a, .ref S] ∧ XL ⟨X.K, CR, P⟩ H M tru W' ∧ Good ⟨X.K, CR, P⟩ H M ∧ RepS ⟨X.K, CR, P⟩ H M δ σ ∧ Q (.bl true) H
theorem call_isF {S a : Addr} {oe : Obj} {d : Option Addr} {pn : List (Addr × Obj)} {W' : WX} {y : D} {z : Str} (T : ErrT X.prog X.w X.K X.mg X.base x C f) (SI : ErrI X.K X.mg z C S) (hz : Zc (.ref C) d oe) (hv : ∃ vs, oe.data = .fields vs) (hW : ∀ c d' σ' H', W' c d' σ' H' → Held d f y H') :
    CallR (X.suite a ((a, oe) :: pn)) (.builtin "isinstance") (rIsF X CR S a W') := by
  obtain ⟨fI, fd, pI, t, _⟩ := T.ex
  intro pins s σ H xs us Q I r h
  obtain ⟨M, P, δ, σ0, rfl, xl, g, hS, q⟩ := h
  obtain ⟨dd, ed, eh⟩ := held_at C (X := X) (f := f) (d := d) (y := y) xl g hS hW
  subst ed
  cases r with
  | cons rx rr =>
    cases rr with
    | cons rt rr =>
      cases rr
      cases rx
      cases rt
      obtain ⟨hget, _⟩ := I.pin (a, oe) (List.mem_append.mpr (.inl List.mem_cons_self))
      obtain ⟨vs, hd⟩ := hv
      have hx : ObjOk X.prog X.w H s.heap dd (.xd [(f, flatV1 y)]) := I.hok dd _ eh
      obtain ⟨mA, hns, hr⟩ := hx
      obtain ⟨od, ho, hl⟩ := lookIn_ns hns
      have J : PySem.W.InstAt s.heap a oe C (some od) := ⟨hget, hz.1, by unfold PySem.W.notCls; rw [hd] <;> rfl, by rw [hz.2]; exact ho⟩
      exact PySem.W.kia_one (PySem.W.kitx_exc SI.ic t.ga t.gg t.o.exC SI.ha SI.hn SI.ht SI.hm) I.kIn J SI.s (fun z => nomatch z) fun tk => ⟨.bl true, H, I.kept (t' := tk) fun _ _ z => z, rfl, q⟩
theorem d_isF {S a : Addr} {oe : Obj} {d : Option Addr} {pn : List (Addr × Obj)} {W' : WX} {y : D} {z : Str} (T : ErrT X.prog X.w X.K X.mg X.base x C f) (SI : ErrI X.K X.mg z C S) (hz : Zc (.ref C) d oe) (hv : ∃ vs, oe.data = .fields vs) (hW : ∀ c d' σ' H', W' c d' σ' H' → Held d f y H') (hm : X.mg "isinstance" = none)
    (he : PD (X.suite a ((a, oe) :: pn)) (bs X CR tru W') e w) (hg : Gl X "isinstance" := by rfl) (hgz : Gl X z := by rfl) (hdb : (z == ("__debug__" : Str)) = false := by decide)
    (hs : starEach [e, .Name z p2] X.env = (false, eval e X.env) :: starEach [.Name z p2] X.env := by rfl) (hs2 : starEach [.Name z p2] X.env = (false, eval (.Name z p2) X.env) :: starEach [] X.env := by rfl) (hpl : (backTo pos (starEach [.Name z p2] X.env)).any (·.1) = false := by rfl) :
    PD (X.suite a ((a, oe) :: pn)) (bs X CR tru W') (.Call (.Name "isinstance" p) [e, .Name z p2] [] pos) (dIsE w a true) := by
  refine (pe_callB (call_isF (CR := CR) (f := f) T SI hz hv hW) hg hm (by decide +kernel) (pa_cons he (pa_cons (pe_glob (v := .ref S) hgz SI.g rfl hdb) pa_nil hs2) hs) (he := hs) (hpl := hpl)).imp fun σ H Q h => ?_
  obtain ⟨P, δ, M, Qd, hS, g, x, w, k⟩ := h
  refine ⟨P, δ, M, _, hS, g, x, w, fun v H1 ⟨d1, M1, z1, g1, r1, ed, q⟩ => ?_⟩
  subst ed
  rw [show v = .ref a from r1]
  exact ⟨M1, P, δ, σ, rfl, x.trans z1, g1, hS.mono z1, k _ _ ⟨.bl true, M1, z1, g1, rfl, q⟩⟩
end
/-! ### a staticmethod of a class -/
structure StatM (P : Program) (w : World) (K : PySem.W.Frag) (mg : Str → Option Value) (base : Heap) (CR : Addr) (k : Nat) (x : Str) (C : Addr) (m : Str) (ps : List Str) (sp : DSp) : Prop where
  g : mg x = some (.ref C)
  rd : PySem.W.readsIn K C (.type "type") = true
  ga : PySem.W.specialIn K (.ref C) "__getattribute__" = some (some (.builtin "type.__getattribute__"))
  ex : ∃ p f fd rest, PySem.W.findCls K (.ref C) (.type "type") m = some (.get (.builtin "staticmethod.__get__") (.ref p) .none (.ref C)) ∧ PySem.W.recIn K p "staticmethod" = some (.ref f :: rest) ∧ PySem.W.keepIn K (.ref f) = true ∧
    FnOk P w K mg base (L2.CX P w) k f fd ps (lSp K CR sp) ∧ Binds K fd ps []
section
variable {X : Cx} {CR C : Addr} {E : DXS} {W : WX} {pos p p1 apos : Pos} {x m : Str} {e : Expr} {es : List Expr} {t : DA} {k : Nat} {ps : List Str} {sp : DSp}
theorem d_static {j : Nat} {pl : Sem Bool} (S : StatM X.prog X.w X.K X.mg X.base CR k x C m ps sp) (tk : Takes X W) (hr : Room j X.A) (ha : PDA X (bs X CR E W) (e :: es) t) (hk : k ≤ j := by decide) (hg : Gl X x := by rfl) (hdb : (x == ("__debug__" : Str)) = false := by decide)
    (hst : starEach (e :: es) X.env = (false, eval e X.env) :: starEach es X.env := by rfl) (hpl : (backTo pos (starEach es X.env)).any (·.1) = false := by rfl)
    (ht : eval (.Call (.Attribute (.Name x p1) m apos) (e :: es) [] pos) X.env = (do
      let ov ← eval (.Name x p1) X.env
      standAt apos.atName
      let (f, first) ← holding [ov] (getMethod ov m pl)
      callWith pos f first (backTo pos (starEach (e :: es) X.env)) (backToKw pos (keywordEach [] X.env))) := by rfl) : PD X (bs X CR E W) (.Call (.Attribute (.Name x p1) m apos) (e :: es) [] pos) (dCallX sp E t) := by
  obtain ⟨q, f, fd, rest, hf, hp, hkp, F, hb⟩ := S.ex
  refine ⟨fun pins s σ H Q I h => ?_⟩
  obtain ⟨P, δ, M, Qd, hS, g, xl, w, kk⟩ := h
  refine PySem.W.methodCall_KW (pl := pl) (ld_glob I hg S.g ?_ hdb) ht
  refine PySem.W.method_cls I.kIn S.ga (PySem.W.cls_bind I.kIn S.rd hf (wpAny_call (PySem.W.sm_get (s := { s with toks := s.toks + 1 }) I.kIn hp (PySem.W.handed_on rfl ?_))))
  have I1 := I.tok (s.toks + 1)
  refine PySem.W.callWith_K (first := []) (h₀ := X.base) I1.ok.mod.kin hkp (thn (ha.run pos pins _ σ H (fun vs H2 => ∃ ds M2, Fz ⟨X.K, CR, P⟩ H M H2 M2 ∧ Good ⟨X.K, CR, P⟩ H2 M2 ∧ Reps ⟨X.K, CR, P⟩ H2 M2 ds vs ∧ sp ds M2 Qd fun C ns fs M' => E C ns fs δ M') I1 ⟨P, δ, M, _, hS, g, xl, w, fun vs H2 ds M2 z2 g2 rs q2 => ⟨ds, M2, z2, g2, rs, q2⟩⟩) fun us s2 ⟨vs, H2, I2, r, ds, M2, z2, g2, rs, q2⟩ => ⟨I2.kIn, ?_⟩) hst hpl
  refine run_fnS (E := fun σ c d H' => W c d σ H') (us := us) (vs := vs) F (hr.mono hk) hb (passAt tk σ) I2 r ?_
  exact ⟨P, ds, M2, Qd, _, rs, g2, q2, fun v H' l => kk v H' (l.trans z2), lfx_w (hS.mono z2) (xl.trans z2)⟩
end
def statB (K : PySem.W.Frag) (x m : Str) : Bool := PySem.W.readsIn K (He.ga K x) (.type "type") && (He5.wrapB K (He.ga K x) "staticmethod" "staticmethod.__get__" m && PySem.W.keepIn K (.ref (He5.wf K (He.ga K x) "staticmethod" m)))
theorem statM_of {P : Program} {w : World} {K : PySem.W.Frag} {mg : Str → Option Value} {base : Heap} {CR : Addr} {k : Nat} {x m qual nm : Str} {ps : List Str} {sp : DSp} {st : Stmt} {fd : FuncData} (c : statB K x m = true) (g : mg x = some (.ref (He.ga K x)))
    (F : FunD K nm qual (defArgs st) (defBody st) (defScope st) [] [] (He5.wf K (He.ga K x) "staticmethod" m) fd) (ok : FnOk P w K mg base (L2.CX P w) k (He5.wf K (He.ga K x) "staticmethod" m) fd ps (lSp K CR sp))
    (h : ∀ (kV doc pm : Value) (an : Option Addr) (cdv ct : Value) (us : List Value), us.length = ps.length → bindArgs (PySem.W.fnOf nm qual (defArgs st) (defBody st) (defScope st) .none kV doc pm an cdv ct) ⟨us, []⟩ = pure (ps.zip us)) : StatM P w K mg base CR k x (He.ga K x) m ps sp := by
  obtain ⟨c1, c⟩ := He.ba c
  obtain ⟨c2, c3⟩ := He.ba c
  obtain ⟨h1, rest, h2⟩ := He5.wrapB_ok c2
  refine ⟨g, c1, ?_, _, _, fd, rest, h1, h2, c3, ok, F.bindsN h⟩
  unfold PySem.W.readsIn at c1
  obtain ⟨h, _⟩ := He.ba c1
  obtain ⟨h, _⟩ := He.ba h
  obtain ⟨h, h3⟩ := He.ba h
  obtain ⟨_, h2⟩ := He.ba h
  unfold PySem.W.specialIn
  rw [beq_iff_eq.mp h2, Option.bind_some]
  exact beq_iff_eq.mp h3
/-! ### the hook with defs at any place -/
def obsE (ck : PySem.W.Frag → Bool) (fa : List He.Fa) (fn : List He.DefD) (fs : List He5.DefA) (K : PySem.W.Frag) : He.AlD := (ck K && ((He.obsD fa fn K).1 && fs.all fun d => d.ok K), (He.obsD fa fn K).2 ++ fs.map fun d => He5.fnA K (d.at_ K))
def valE (fn : List He.DefD) (fs : List He5.DefA) : He.AlD := (true, (He.valD fn).2 ++ fs.map He5.DefA.val)
def obsEG (n : Nat) (ck : PySem.W.Frag → Bool) (fa : List He.Fa) (fn : List He.DefD) (fs : List He5.DefA) (g : Addr → Option Obj) : He.AlD := obsE ck fa fn fs (He.frG g (He.asD g n ++ [cStatics, sysModules]))
def SaysE (ck : PySem.W.Frag → Bool) (fa : List He.Fa) (fn : List He.DefD) (fs : List He5.DefA) (K : PySem.W.Frag) : Prop := (ck K = true ∧ He.SaysD fa fn K) ∧ He5.SaysA [] fs K
theorem obsE_ok {ck : PySem.W.Frag → Bool} {fa : List He.Fa} {fn : List He.DefD} {fs : List He5.DefA} {K : PySem.W.Frag} (e : obsE ck fa fn fs K = valE fn fs) : SaysE ck fa fn fs K := by
  have e1 : (ck K && ((He.obsD fa fn K).1 && fs.all fun d => d.ok K)) = true := congrArg (fun z : He.AlD => z.1) e
  have e2 : (He.obsD fa fn K).2 ++ fs.map (fun d => He5.fnA K (d.at_ K)) = (He.valD fn).2 ++ fs.map He5.DefA.val := congrArg (fun z : He.AlD => z.2) e
  obtain ⟨a, b⟩ := He.ba e1
  obtain ⟨b1, b2⟩ := He.ba b
  have hl : (fs.map fun d => He5.fnA K (d.at_ K)).length = (fs.map He5.DefA.val).length := by rw [List.length_map, List.length_map]
  obtain ⟨p1, p2⟩ := List.append_inj' e2 hl
  refine ⟨⟨a, Prod.ext b1 p1⟩, ?_⟩
  show He5.obsA [] fs K = He5.valA fs
  have hh : (He5.obsA [] fs K).1 = true := by
    show (true && fs.all fun d => d.ok K) = true
    rw [b2]; rfl
  exact Prod.ext hh p2
def hookE (n : Nat) (ck : PySem.W.Frag → Bool) (fa : List He.Fa) (fn : List He.DefD) (fs : List He5.DefA) : PySem.W.Hook where
  α := He.AlD
  obs s := obsEG n ck fa fn fs s.heap.get?
  val _ := valE fn fs
  says _ h := ∃ K : PySem.W.Frag, K.In h ∧ SaysE ck fa fn fs K
  of _ _ e := ⟨_, He.frG_in, obsE_ok e⟩
  keeps _ _ _ := fun ⟨K, hK, c⟩ k => ⟨K, PySem.W.Frag.In.keeps hK k, c⟩
theorem obsEG_eq {n : Nat} {ck : PySem.W.Frag → Bool} {fa : List He.Fa} {fn : List He.DefD} {fs : List He5.DefA} {g : Addr → Option Obj} {s : Shared} (h : ∀ a, g a = s.heap.get? a) : obsEG n ck fa fn fs g = (hookE n ck fa fn fs).obs s := by
  have : g = s.heap.get? := funext h
  subst this; rfl
/-! ### the errors of a text, each against each -/
def apB (K : PySem.W.Frag) (l : List Str) : Bool := l.all fun a => l.all fun b => decide (PySem.W.exmOne K (.ref (He.ga K a)) (.ref (He.ga K b)) = some (decide (a = b)))
def errNames : List Str := ["DuplicateName", "BadReading", "UnknownPoint", "UnknownReading", "LimitReached"]
/-! ### the row -/
def top (i : Nat) : Stmt := PySem.Challenge.pw_plumbnet_k81_whole_any_order.main.body.getD i (.Pass ⟨0, 0, 0, 0⟩)
abbrev s_Ratio___init__ : Stmt := inCls (top 13) 0
abbrev s_Ratio___add__ : Stmt := inCls (top 13) 1
abbrev s_Ratio___sub__ : Stmt := inCls (top 13) 2
abbrev s_Ratio___mul__ : Stmt := inCls (top 13) 3
abbrev s_Ratio___neg__ : Stmt := inCls (top 13) 4
abbrev s_Ratio___eq__ : Stmt := inCls (top 13) 6
abbrev s_Ratio___lt__ : Stmt := inCls (top 13) 7
abbrev s_Ratio___le__ : Stmt := inCls (top 13) 8
abbrev s_Ratio___gt__ : Stmt := inCls (top 13) 9
abbrev s_Ratio___ge__ : Stmt := inCls (top 13) 10
abbrev s_Ratio___abs__ : Stmt := inCls (top 13) 5
abbrev s_Ratio_over_fdb9 : Stmt := inCls (top 13) 12
abbrev s_DuplicateName___init__ : Stmt := inCls (top 7) 0
abbrev s_UnknownPoint___init__ : Stmt := inCls (top 6) 0
abbrev s_LimitReached___init__ : Stmt := inCls (top 8) 0
abbrev s_dot_w : Stmt := top 17
abbrev s_apply_w : Stmt := top 23
abbrev s_Net_squares_0871 : Stmt := inCls (top 34) 14
abbrev s_plus : Stmt := top 19
abbrev s_Net_heights : Stmt := inCls (top 34) 12
abbrev s_Reading___init__ : Stmt := inCls (top 15) 0
abbrev s_Net_row : Stmt := inCls (top 34) 2
abbrev s_scale : Stmt := top 18
abbrev s_sum_of : Stmt := top 25
abbrev s_scaled : Stmt := top 26
abbrev s_outer : Stmt := top 24
abbrev s_add_term : Stmt := top 28
abbrev s_Net_tally : Stmt := inCls (top 34) 4
abbrev s_is_zero : Stmt := top 21
abbrev s_minus : Stmt := top 20
abbrev s_with_added_b : Stmt := top 29
abbrev s_Net_put : Stmt := inCls (top 34) 5
abbrev s_Net_add_48dc : Stmt := inCls (top 34) 7
abbrev s_widened : Stmt := top 33
abbrev s_Net_add_point_5ee7 : Stmt := inCls (top 34) 1
abbrev s_Net___init__ : Stmt := inCls (top 34) 0
abbrev s_law_same_e380 : Stmt := top 40
abbrev s_law_same_vectors : Stmt := top 41
abbrev s_law_draw_82fd : Stmt := top 37
abbrev s_law_weight_w : Stmt := top 43
abbrev s_law_whole : Stmt := top 38
abbrev s_law_ratio_0f72 : Stmt := top 39
abbrev s_law_terms_6d2d : Stmt := top 42
abbrev s_law_reading : Stmt := top 44
abbrev s_law_names_51c2 : Stmt := top 45
abbrev s_law_net_71f1 : Stmt := top 46
abbrev s_law_state_87c3 : Stmt := top 36
abbrev s_law_c14d : Stmt := top 47
def d_Ratio___init__ : He.DefD := ⟨("Ratio", some "__init__"), "__init__", "Ratio.__init__", defArgs s_Ratio___init__, defBody s_Ratio___init__, defScope s_Ratio___init__, [.int 1], []⟩
def d_Ratio___add__ : He.DefD := ⟨("Ratio", some "__add__"), "__add__", "Ratio.__add__", defArgs s_Ratio___add__, defBody s_Ratio___add__, defScope s_Ratio___add__, [], []⟩
def d_Ratio___sub__ : He.DefD := ⟨("Ratio", some "__sub__"), "__sub__", "Ratio.__sub__", defArgs s_Ratio___sub__, defBody s_Ratio___sub__, defScope s_Ratio___sub__, [], []⟩
def d_Ratio___mul__ : He.DefD := ⟨("Ratio", some "__mul__"), "__mul__", "Ratio.__mul__", defArgs s_Ratio___mul__, defBody s_Ratio___mul__, defScope s_Ratio___mul__, [], []⟩
def d_Ratio___neg__ : He.DefD := ⟨("Ratio", some "__neg__"), "__neg__", "Ratio.__neg__", defArgs s_Ratio___neg__, defBody s_Ratio___neg__, defScope s_Ratio___neg__, [], []⟩
def d_Ratio___eq__ : He.DefD := ⟨("Ratio", some "__eq__"), "__eq__", "Ratio.__eq__", defArgs s_Ratio___eq__, defBody s_Ratio___eq__, defScope s_Ratio___eq__, [], []⟩
def d_Ratio___lt__ : He.DefD := ⟨("Ratio", some "__lt__"), "__lt__", "Ratio.__lt__", defArgs s_Ratio___lt__, defBody s_Ratio___lt__, defScope s_Ratio___lt__, [], []⟩
def d_Ratio___le__ : He.DefD := ⟨("Ratio", some "__le__"), "__le__", "Ratio.__le__", defArgs s_Ratio___le__, defBody s_Ratio___le__, defScope s_Ratio___le__, [], []⟩
def d_Ratio___gt__ : He.DefD := ⟨("Ratio", some "__gt__"), "__gt__", "Ratio.__gt__", defArgs s_Ratio___gt__, defBody s_Ratio___gt__, defScope s_Ratio___gt__, [], []⟩
def d_Ratio___ge__ : He.DefD := ⟨("Ratio", some "__ge__"), "__ge__", "Ratio.__ge__", defArgs s_Ratio___ge__, defBody s_Ratio___ge__, defScope s_Ratio___ge__, [], []⟩
def d_Ratio___abs__ : He.DefD := ⟨("Ratio", some "__abs__"), "__abs__", "Ratio.__abs__", defArgs s_Ratio___abs__, defBody s_Ratio___abs__, defScope s_Ratio___abs__, [], []⟩
def d_Ratio_over_fdb9 : He.DefD := ⟨("Ratio", some "over"), "over", "Ratio.over", defArgs s_Ratio_over_fdb9, defBody s_Ratio_over_fdb9, defScope s_Ratio_over_fdb9, [], []⟩
def d_DuplicateName___init__ : He.DefD := ⟨("DuplicateName", some "__init__"), "__init__", "DuplicateName.__init__", defArgs s_DuplicateName___init__, defBody s_DuplicateName___init__, defScope s_DuplicateName___init__, [], []⟩
def d_UnknownPoint___init__ : He.DefD := ⟨("UnknownPoint", some "__init__"), "__init__", "UnknownPoint.__init__", defArgs s_UnknownPoint___init__, defBody s_UnknownPoint___init__, defScope s_UnknownPoint___init__, [], []⟩
def d_LimitReached___init__ : He.DefD := ⟨("LimitReached", some "__init__"), "__init__", "LimitReached.__init__", defArgs s_LimitReached___init__, defBody s_LimitReached___init__, defScope s_LimitReached___init__, [], []⟩
def d_dot_w : He.DefD := ⟨("dot", none), "dot", "dot", defArgs s_dot_w, defBody s_dot_w, defScope s_dot_w, [], []⟩
def d_apply_w : He.DefD := ⟨("apply", none), "apply", "apply", defArgs s_apply_w, defBody s_apply_w, defScope s_apply_w, [], []⟩
def d_Net_squares_0871 : He.DefD := ⟨("Net", some "squares"), "squares", "Net.squares", defArgs s_Net_squares_0871, defBody s_Net_squares_0871, defScope s_Net_squares_0871, [], []⟩
def d_plus : He.DefD := ⟨("plus", none), "plus", "plus", defArgs s_plus, defBody s_plus, defScope s_plus, [], []⟩
def d_Net_heights : He.DefD := ⟨("Net", some "heights"), "heights", "Net.heights", defArgs s_Net_heights, defBody s_Net_heights, defScope s_Net_heights, [], []⟩
def d_Reading___init__ : He.DefD := ⟨("Reading", some "__init__"), "__init__", "Reading.__init__", defArgs s_Reading___init__, defBody s_Reading___init__, defScope s_Reading___init__, [], []⟩
def d_Net_row : He.DefD := ⟨("Net", some "row"), "row", "Net.row", defArgs s_Net_row, defBody s_Net_row, defScope s_Net_row, [], []⟩
def d_scale : He.DefD := ⟨("scale", none), "scale", "scale", defArgs s_scale, defBody s_scale, defScope s_scale, [], []⟩
def d_sum_of : He.DefD := ⟨("sum_of", none), "sum_of", "sum_of", defArgs s_sum_of, defBody s_sum_of, defScope s_sum_of, [], []⟩
def d_scaled : He.DefD := ⟨("scaled", none), "scaled", "scaled", defArgs s_scaled, defBody s_scaled, defScope s_scaled, [], []⟩
def d_outer : He.DefD := ⟨("outer", none), "outer", "outer", defArgs s_outer, defBody s_outer, defScope s_outer, [], []⟩
def d_add_term : He.DefD := ⟨("add_term", none), "add_term", "add_term", defArgs s_add_term, defBody s_add_term, defScope s_add_term, [], []⟩
def d_Net_tally : He.DefD := ⟨("Net", some "tally"), "tally", "Net.tally", defArgs s_Net_tally, defBody s_Net_tally, defScope s_Net_tally, [], []⟩
def d_is_zero : He.DefD := ⟨("is_zero", none), "is_zero", "is_zero", defArgs s_is_zero, defBody s_is_zero, defScope s_is_zero, [], []⟩
def d_minus : He.DefD := ⟨("minus", none), "minus", "minus", defArgs s_minus, defBody s_minus, defScope s_minus, [], []⟩
def d_with_added_b : He.DefD := ⟨("with_added", none), "with_added", "with_added", defArgs s_with_added_b, defBody s_with_added_b, defScope s_with_added_b, [], []⟩
def d_Net_put : He.DefD := ⟨("Net", some "put"), "put", "Net.put", defArgs s_Net_put, defBody s_Net_put, defScope s_Net_put, [], []⟩
def d_Net_add_48dc : He.DefD := ⟨("Net", some "add"), "add", "Net.add", defArgs s_Net_add_48dc, defBody s_Net_add_48dc, defScope s_Net_add_48dc, [], []⟩
def d_widened : He.DefD := ⟨("widened", none), "widened", "widened", defArgs s_widened, defBody s_widened, defScope s_widened, [], []⟩
def d_Net_add_point_5ee7 : He.DefD := ⟨("Net", some "add_point"), "add_point", "Net.add_point", defArgs s_Net_add_point_5ee7, defBody s_Net_add_point_5ee7, defScope s_Net_add_point_5ee7, [], []⟩
def d_Net___init__ : He.DefD := ⟨("Net", some "__init__"), "__init__", "Net.__init__", defArgs s_Net___init__, defBody s_Net___init__, defScope s_Net___init__, [], []⟩
def d_law_same_e380 : He.DefD := ⟨("_law_same", none), "_law_same", "_law_same", defArgs s_law_same_e380, defBody s_law_same_e380, defScope s_law_same_e380, [], []⟩
def d_law_same_vectors : He.DefD := ⟨("_law_same_vectors", none), "_law_same_vectors", "_law_same_vectors", defArgs s_law_same_vectors, defBody s_law_same_vectors, defScope s_law_same_vectors, [], []⟩
def d_law_draw_82fd : He.DefD := ⟨("_law_draw", none), "_law_draw", "_law_draw", defArgs s_law_draw_82fd, defBody s_law_draw_82fd, defScope s_law_draw_82fd, [], []⟩
def d_law_weight_w : He.DefD := ⟨("_law_weight", none), "_law_weight", "_law_weight", defArgs s_law_weight_w, defBody s_law_weight_w, defScope s_law_weight_w, [], []⟩
def d_law_whole : He.DefD := ⟨("_law_whole", none), "_law_whole", "_law_whole", defArgs s_law_whole, defBody s_law_whole, defScope s_law_whole, [], []⟩
def d_law_ratio_0f72 : He.DefD := ⟨("_law_ratio", none), "_law_ratio", "_law_ratio", defArgs s_law_ratio_0f72, defBody s_law_ratio_0f72, defScope s_law_ratio_0f72, [], []⟩
def d_law_terms_6d2d : He.DefD := ⟨("_law_terms", none), "_law_terms", "_law_terms", defArgs s_law_terms_6d2d, defBody s_law_terms_6d2d, defScope s_law_terms_6d2d, [], []⟩
def d_law_reading : He.DefD := ⟨("_law_reading", none), "_law_reading", "_law_reading", defArgs s_law_reading, defBody s_law_reading, defScope s_law_reading, [], []⟩
def d_law_names_51c2 : He.DefD := ⟨("_law_names", none), "_law_names", "_law_names", defArgs s_law_names_51c2, defBody s_law_names_51c2, defScope s_law_names_51c2, [], []⟩
def d_law_net_71f1 : He.DefD := ⟨("_law_net", none), "_law_net", "_law_net", defArgs s_law_net_71f1, defBody s_law_net_71f1, defScope s_law_net_71f1, [], []⟩
def d_law_state_87c3 : He.DefD := ⟨("_law_state", none), "_law_state", "_law_state", defArgs s_law_state_87c3, defBody s_law_state_87c3, defScope s_law_state_87c3, [], []⟩
def d_law_c14d : He.DefD := ⟨("law", none), "law", "law", defArgs s_law_c14d, defBody s_law_c14d, defScope s_law_c14d, [], []⟩
def fn : List He.DefD := [d_dot_w, d_apply_w, d_Net_squares_0871, d_plus, d_Net_heights, d_Reading___init__, d_Net_row, d_scale, d_sum_of, d_scaled, d_outer, d_add_term, d_Net_tally, d_is_zero, d_minus, d_with_added_b, d_Net_put, d_Net_add_48dc, d_widened, d_Net_add_point_5ee7, d_Net___init__, d_law_same_e380, d_law_same_vectors, d_law_draw_82fd, d_law_weight_w, d_law_whole, d_law_ratio_0f72, d_law_terms_6d2d, d_law_reading, d_law_names_51c2, d_law_net_71f1, d_law_state_87c3, d_law_c14d, d_Ratio___init__, d_Ratio___add__, d_Ratio___sub__, d_Ratio___mul__, d_Ratio___neg__, d_Ratio___eq__, d_Ratio___lt__, d_Ratio___le__, d_Ratio___gt__, d_Ratio___ge__, d_Ratio___abs__, d_Ratio_over_fdb9, d_DuplicateName___init__, d_UnknownPoint___init__, d_LimitReached___init__]
def fa : List He.Fa := [.glo "dot", .glo "apply", .glo "plus", .glo "scale", .glo "sum_of", .glo "scaled", .glo "outer", .glo "add_term", .glo "is_zero", .glo "minus", .glo "with_added", .glo "widened", .glo "_law_same", .glo "_law_same_vectors", .glo "_law_draw", .glo "_law_weight", .glo "_law_whole", .glo "_law_ratio", .glo "_law_terms", .glo "_law_reading", .glo "_law_names", .glo "_law_net", .glo "_law_state", .glo "law", .free "isinstance", .free "abs", .free "zip", .free "tuple", .free "len", .int "MOST_READINGS" (24), .free "range", .int "MOST_POINTS" (12), .free "int", .free "str", .free "list", .cls "Ratio", .noat "Ratio" "top", .noat "Ratio" "bottom", .glo "Ratio", .mkr "Ratio", .meth "Ratio" "__add__", .meth "Ratio" "__sub__", .meth "Ratio" "__mul__", .meth "Ratio" "__neg__", .meth "Ratio" "__eq__", .meth "Ratio" "__lt__", .meth "Ratio" "__le__", .meth "Ratio" "__gt__", .meth "Ratio" "__ge__", .meth "Ratio" "__abs__", .meth "Ratio" "over", .cls "Reading", .glo "Reading", .mkr "Reading", .noat "Reading" "name", .noat "Reading" "terms", .noat "Reading" "value", .noat "Reading" "weight", .cls "Net", .glo "Net", .mkr "Net", .noat "Net" "points", .noat "Net" "approximations", .noat "Net" "readings", .noat "Net" "normal", .noat "Net" "inverse", .noat "Net" "right", .noat "Net" "total", .meth "Net" "squares", .meth "Net" "heights", .meth "Net" "row", .meth "Net" "tally", .meth "Net" "put", .meth "Net" "add", .meth "Net" "add_point"]
abbrev R : PySem.W.OpenRow := PySem.W.OpenLaw.row PySem.Challenge.rw_plumbnet_k81_whole_any_order
abbrev hk : PySem.W.Hook := hookE 6 (fun K => ratCk K && (errB K "DuplicateName" "name" && (errB K "UnknownPoint" "name" && (errB K "LimitReached" "what")))) fa fn []
def ob (s : PySem.W.SharedT) : He.AlD := obsEG 6 (fun K => ratCk K && (errB K "DuplicateName" "name" && (errB K "UnknownPoint" "name" && (errB K "LimitReached" "what")))) fa fn [] (HandSHeadRun.getT s)
theorem ob_eq (s : PySem.W.SharedT) : ob s = hk.obs s.abs := obsEG_eq (HandSHeadRun.getT_eq s)
theorem run (w : World) : HandSHeadRun.RunEqI R (PySem.W.view R.prog [0, 47]) hk ob 4500 ((["_wall", "SurveyError", "BadNumber", "ZeroDivisor", "UnknownPoint", "DuplicateName", "LimitReached", "MOST_DIGITS", "DIGITS", "read_digits", "Ratio", "Reading", "dot", "scale", "plus", "minus", "is_zero", "apply", "outer", "sum_of", "scaled", "add_term", "with_added", "MOST_POINTS", "MOST_READINGS", "widened", "Net", "_law_state", "_law_draw", "_law_whole"] : List PySem.Str) ++ (["_law_ratio", "_law_same", "_law_same_vectors", "_law_terms", "_law_weight", "_law_reading", "_law_names", "_law_net"] : List PySem.Str)) w := by
  unfold HandSHeadRun.RunEqI
  kernel_rfl
/-! ### objects: fields, making, methods -/
theorem lookup_rep {O : Own} {H M} {f : Str} {y : D} : ∀ {ns : List Str} {xs : List D} {vs : List V}, Reps O H M xs vs → (ns.zip xs).lookup f = some y → ∃ v, (ns.zip vs).lookup f = some v ∧ Rep O H M y v
  | [], _, _, _, h => by simp at h
  | n :: ns, [], _, _, h => by simp at h
  | n :: ns, x :: xs, vs, r, h => by
    obtain ⟨v, us, rfl, r1, r2⟩ := r
    show ∃ w, List.lookup f ((n, v) :: ns.zip us) = some w ∧ _
    have h : List.lookup f ((n, x) :: ns.zip xs) = some y := h
    unfold List.lookup at h ⊢
    cases e : f == n with
    | true => rw [e] at h; cases h; exact ⟨v, rfl, r1⟩
    | false => rw [e] at h; exact lookup_rep r2 h
theorem lookup_none {f : Str} : ∀ {ns : List Str} (vs : List V), f ∉ ns → (ns.zip vs).lookup f = none
  | [], _, _ => rfl
  | n :: ns, [], _ => rfl
  | n :: ns, v :: vs, h => by
    show List.lookup f ((n, v) :: ns.zip vs) = none
    unfold List.lookup
    have : (f == n) = false := by simp only [beq_eq_false_iff_ne]; exact fun e => h (e ▸ List.mem_cons_self)
    rw [this]
    exact lookup_none vs fun m => h (List.mem_cons_of_mem _ m)
/-- an object, of the memory or by value -/
def ObjD (d : D) (M : Mem) (C : Addr) (ns : List Str) (xs : List D) : Prop := d = .obj C ns xs ∨ ∃ p, d = .ref p ∧ M p = some (.ins C ns xs)
theorem ObjD.at_ {O : Own} {H M} {d : D} {C : Addr} {ns : List Str} {xs : List D} {v : V} (h : ObjD d M C ns xs) (g : Good O H M) (r : Rep O H M d v) : ∃ a dx vs, v = .ref a ∧ H a = some (.ins C dx (ns.zip vs)) ∧ ns.length = vs.length ∧ Reps O H M xs vs := by
  rcases h with rfl | ⟨p, rfl, em⟩
  · obtain ⟨a, dx, vs, e, _, h, l, r⟩ := r; exact ⟨a, dx, vs, e, h, l, r⟩
  · obtain ⟨dx, vs, e, l, rs⟩ := g.at_ p _ em
    exact ⟨p, dx, vs, r, e, l, rs⟩
section
variable {X : Cx} {CR : Addr} {E : DXS} {W : WX} {pos p apos : Pos} {e o : Expr} {es : List Expr} {w wo : DE} {t : DA}
def dFld (okC : Addr → Prop) (f : Str) (w : DE) : DE := fun δ M Q => w δ M fun d M1 => ∃ C ns xs y, ObjD d M1 C ns xs ∧ okC C ∧ (ns.zip xs).lookup f = some y ∧ Q y M1
theorem d_fld {okC : Addr → Prop} {f : Str} (hC : ∀ C, okC C → Cls X.K C ∧ NoAttr X.K C f) (he : PD X (bs X CR E W) e w) (hb : attributeBase e f X.env (eval e X.env) = eval e X.env := by rfl) : PD X (bs X CR E W) (.Attribute e f pos) (dFld okC f w) := by
  refine (pe_fld he hb).imp fun σ H Q h => ?_
  obtain ⟨P, δ, M, Qd, hS, g, x, w, k⟩ := h
  refine ⟨P, δ, M, _, hS, g, x, w, fun v H1 ⟨d, M1, z, g1, r, C, ns, xs, y, hd, ok, l, q⟩ => ?_⟩
  obtain ⟨a, dx, vs, ev, ea, _, rs⟩ := hd.at_ g1 r
  obtain ⟨c, n⟩ := hC C ok
  obtain ⟨u, lu, ru⟩ := lookup_rep rs l
  exact ⟨a, C, dx, _, u, ev, ea, c, n, lu, k _ _ ⟨y, M1, z, g1, ru, q⟩⟩
/-- an own class: its __init__ keeps sp; no exception leaves it -/
structure MkC (P : Program) (w : World) (K : PySem.W.Frag) (mg : Str → Option Value) (base : Heap) (CR : Addr) (k : Nat) (x : Str) (C : Addr) (ps : List Str) (sp : DSp) : Prop where
  g : mg x = some (.ref C)
  ex : ∃ f fd, Mk K C f ∧ FnOk P w K mg base (L2.CX P w) k f fd ps (lSp K CR sp) ∧ Binds K fd ps []
/-- C(..), kept for changing -/
def dMkR (C : Addr) (sp : DSp) (t : DA) : DE := fun δ M Q => t δ M fun ds M1 => ∀ x, M1 x = none → sp (.ref x :: ds) (mput M1 x (.ins C [] [])) (fun d M2 => d = .non ∧ Q (.ref x) M2) noX
/-- C(..), let go -/
def dMkZ (C : Addr) (sp : DSp) (t : DA) : DE := fun δ M Q => t δ M fun ds M1 => ∀ x, M1 x = none → sp (.ref x :: ds) (mput M1 x (.ins C [] [])) (fun d M2 => d = .non ∧ ∃ ns xs, M2 x = some (.ins C ns xs) ∧ Q (.obj C ns xs) (mdel M2 x)) noX
theorem mk_core {C : Addr} {P : Addr → Prop} {H M} {Q : VK} {sp : DSp} {Qd : DK} {ds : List D} {vs : List V} (g : Good ⟨X.K, CR, P⟩ H M) (rs : Reps ⟨X.K, CR, P⟩ H M ds vs)
    (q : ∀ x, M x = none → sp (.ref x :: ds) (mput M x (.ins C [] [])) (fun d M2 => d = .non ∧ Qd (.ref x) M2) noX) (k : ∀ v H', LfV ⟨X.K, CR, P⟩ H M Qd v H' → Q v H') : ∀ x dx, H x = none → H dx = none → dx ≠ x →
      lSp X.K CR sp (.ref x :: (vs ++ [])) (upd (upd H dx (.own x)) x (.ins C dx [])) (fun v H2 => v = .non ∧ Q (.ref x) H2) E0 := by
  intro x dx hx hd hne
  rw [List.append_nil]
  have z1 : Fz ⟨X.K, CR, P⟩ H M (upd H dx (.own x)) M := fz_new g hd
  have g1 : Good ⟨X.K, CR, P⟩ (upd H dx (.own x)) M := good_new g hd
  have hx1 : upd H dx (.own x) x = none := by rw [upd_ne (Ne.symm hne)]; exact hx
  have z2 : Fz ⟨X.K, CR, P⟩ (upd H dx (.own x)) M (upd (upd H dx (.own x)) x (.ins C dx [])) (mput M x (.ins C [] [])) := fz_newM g1 hx1
  have fx := g.none hx
  have g2 : Good ⟨X.K, CR, P⟩ (upd (upd H dx (.own x)) x (.ins C dx [])) (mput M x (.ins C [] [])) := good_put g1 fx.2 z2 ⟨dx, [], upd_same, rfl, rfl⟩
  refine ⟨P, .ref x :: ds, mput M x (.ins C [] []), _, noX, ⟨_, _, rfl, rfl, (rs.mono z1).mono z2⟩, g2, q x fx.1, ?_, fun c d H' l => l.no⟩
  rintro v H' ⟨d, M2, z, g3, r, rfl, q2⟩
  exact ⟨r, k _ _ ⟨.ref x, M2, (z1.trans z2).trans z, g3, rfl, q2⟩⟩
theorem d_mkR {j k : Nat} {x : Str} {C : Addr} {ps : List Str} {sp : DSp} (T : MkC X.prog X.w X.K X.mg X.base CR k x C ps sp) (hr : Room j X.A) (ha : PDA X (bs X CR E W) (e :: es) t) (hk : k + 1 ≤ j := by decide) (hg : Gl X x := by rfl)
    (hdb : (x == ("__debug__" : Str)) = false := by decide) (he : starEach (e :: es) X.env = (false, eval e X.env) :: starEach es X.env := by rfl) (hpl : (backTo pos (starEach es X.env)).any (·.1) = false := by rfl) : PD X (bs X CR E W) (.Call (.Name x p) (e :: es) [] pos) (dMkR C sp t) := by
  obtain ⟨f, fd, mk, F, hb⟩ := T.ex
  refine (pe_make mk F (hr.mono hk) hg T.g hb .nil passL ha hdb he hpl).imp fun σ H Q h => ?_
  obtain ⟨P, δ, M, Qd, hS, g, x, w, k⟩ := h
  exact ⟨P, δ, M, _, hS, g, x, w, fun vs H1 ds M1 z1 g1 rs q => mk_core g1 rs q fun v H' l => k v H' (l.trans z1)⟩
theorem d_mkR0 {j k : Nat} {x : Str} {C : Addr} {ps : List Str} {sp : DSp} (T : MkC X.prog X.w X.K X.mg X.base CR k x C ps sp) (hr : Room j X.A) (hk : k + 1 ≤ j := by decide) (hg : Gl X x := by rfl)
    (hdb : (x == ("__debug__" : Str)) = false := by decide) : PD X (bs X CR E W) (.Call (.Name x p) [] [] pos) (dMkR C sp dNil) := by
  obtain ⟨f, fd, mk, F, hb⟩ := T.ex
  refine (pe_make0 mk F (hr.mono hk) hg T.g hb .nil passL hdb).imp fun σ H Q h => ?_
  obtain ⟨P, δ, M, Qd, hS, g, x, w, k⟩ := h
  exact fun x dx h1 h2 h3 => mk_core (ds := []) (vs := []) g rfl w k x dx h1 h2 h3
theorem mk_coreZ {C : Addr} {P : Addr → Prop} {H M} {Q : VK} {sp : DSp} {Qd : DK} {ds : List D} {vs : List V} (g : Good ⟨X.K, CR, P⟩ H M) (rs : Reps ⟨X.K, CR, P⟩ H M ds vs)
    (q : ∀ x, M x = none → sp (.ref x :: ds) (mput M x (.ins C [] [])) (fun d M2 => d = .non ∧ ∃ ns xs, M2 x = some (.ins C ns xs) ∧ Qd (.obj C ns xs) (mdel M2 x)) noX) (k : ∀ v H', LfV ⟨X.K, CR, P⟩ H M Qd v H' → Q v H') : ∀ x dx, H x = none → H dx = none → dx ≠ x →
      lSp X.K CR sp (.ref x :: (vs ++ [])) (upd (upd H dx (.own x)) x (.ins C dx [])) (fun v H2 => v = .non ∧ Q (.ref x) H2) E0 := by
  intro x dx hx hd hne
  rw [List.append_nil]
  have z1 : Fz ⟨X.K, CR, P⟩ H M (upd H dx (.own x)) M := fz_new g hd
  have g1 : Good ⟨X.K, CR, P⟩ (upd H dx (.own x)) M := good_new g hd
  have hx1 : upd H dx (.own x) x = none := by rw [upd_ne (Ne.symm hne)]; exact hx
  have z2 : Fz ⟨X.K, CR, P⟩ (upd H dx (.own x)) M (upd (upd H dx (.own x)) x (.ins C dx [])) (mput M x (.ins C [] [])) := fz_newM g1 hx1
  have fx := g.none hx
  have g2 : Good ⟨X.K, CR, P⟩ (upd (upd H dx (.own x)) x (.ins C dx [])) (mput M x (.ins C [] [])) := good_put g1 fx.2 z2 ⟨dx, [], upd_same, rfl, rfl⟩
  refine ⟨P, .ref x :: ds, mput M x (.ins C [] []), _, noX, ⟨_, _, rfl, rfl, (rs.mono z1).mono z2⟩, g2, q x fx.1, ?_, fun c d H' l => l.no⟩
  rintro v H' ⟨d, M2, z, g3, r, rfl, ns, xs, em, q2⟩
  exact ⟨r, k _ _ ⟨.obj C ns xs, mdel M2 x, ((z1.trans z2).trans z).trans fz_del, good_del g3, rep_frzO g3 em, q2⟩⟩
theorem d_mkZ {j k : Nat} {x : Str} {C : Addr} {ps : List Str} {sp : DSp} (T : MkC X.prog X.w X.K X.mg X.base CR k x C ps sp) (hr : Room j X.A) (ha : PDA X (bs X CR E W) (e :: es) t) (hk : k + 1 ≤ j := by decide) (hg : Gl X x := by rfl)
    (hdb : (x == ("__debug__" : Str)) = false := by decide) (he : starEach (e :: es) X.env = (false, eval e X.env) :: starEach es X.env := by rfl) (hpl : (backTo pos (starEach es X.env)).any (·.1) = false := by rfl) : PD X (bs X CR E W) (.Call (.Name x p) (e :: es) [] pos) (dMkZ C sp t) := by
  obtain ⟨f, fd, mk, F, hb⟩ := T.ex
  refine (pe_make mk F (hr.mono hk) hg T.g hb .nil passL ha hdb he hpl).imp fun σ H Q h => ?_
  obtain ⟨P, δ, M, Qd, hS, g, x, w, k⟩ := h
  exact ⟨P, δ, M, _, hS, g, x, w, fun vs H1 ds M1 z1 g1 rs q => mk_coreZ g1 rs q fun v H' l => k v H' (l.trans z1)⟩
/-- an own method; what it raises is E's -/
structure MethC (P : Program) (w : World) (K : PySem.W.Frag) (mg : Str → Option Value) (base : Heap) (CR : Addr) (k : Nat) (C : Addr) (name : Str) (ps : List Str) (sp : DSp) : Prop where
  cls : Cls K C
  ex : ∃ f fd, FnOk P w K mg base (L2.CX P w) k f fd ps (lSp K CR sp) ∧ Binds K fd ps [] ∧ Meth K C name f
def dMethC (C : Addr) (name : Str) (sp : DSp) (E : DXS) (wo : DE) (t : DA) : DE := fun δ M Q => wo δ M fun o M1 => ∃ ns xs, ObjD o M1 C ns xs ∧ name ∉ ns ∧ t δ M1 fun ds M2 => ObjD o M2 C ns xs ∧ sp (o :: ds) M2 Q fun C' ns' fs M' => E C' ns' fs δ M'
theorem d_methC {C : Addr} {name : Str} {ps : List Str} {sp : DSp} {pl : Sem Bool} {j k : Nat} (O : MethC X.prog X.w X.K X.mg X.base CR k C name ps sp) (hr : Room j X.A) (tk : Takes X W) (ho : PD X (bs X CR E W) o wo) (ha : PDA X (bs X CR E W) (e :: es) t) (hk : k ≤ j := by decide)
    (hst : starEach (e :: es) X.env = (false, eval e X.env) :: starEach es X.env := by rfl) (hpl : (backTo pos (starEach es X.env)).any (·.1) = false := by rfl)
    (ht : eval (.Call (.Attribute o name apos) (e :: es) [] pos) X.env = (do
      let ov ← eval o X.env
      standAt apos.atName
      let (f, first) ← holding [ov] (getMethod ov name pl)
      callWith pos f first (backTo pos (starEach (e :: es) X.env)) (backToKw pos (keywordEach [] X.env))) := by rfl) : PD X (bs X CR E W) (.Call (.Attribute o name apos) (e :: es) [] pos) (dMethC C name sp E wo t) := by
  obtain ⟨f, fd, F, hb, hm⟩ := O.ex
  refine ⟨fun pins s σ H Q I h => ?_⟩
  obtain ⟨P, δ, M, Qd, hS, g, x, w, kk⟩ := h
  refine PySem.W.methodCall_KW (pl := pl) (thn (ho.run pins s σ H (fun v H' => LfV ⟨X.K, CR, P⟩ H M _ v H') I ⟨P, δ, M, _, hS, g, x, w, fun _ _ l => l⟩) fun u s1 ⟨y, H1, I1, ry, d, M1, z1, g1, r1, ns, xs, hd, hn, q1⟩ => ?_) ht
  obtain ⟨a, dx, vs0, ey, ea, _, _⟩ := hd.at_ g1 r1
  subst ey
  obtain rfl : u = Value.ref a := ry
  refine getmeth_ok I1 ea O.cls hm (lookup_none _ hn) ?_
  refine PySem.W.callWith_K (first := [.ref a]) (h₀ := X.base) I1.ok.mod.kin hm.kp (thn (ha.run pos pins s1 σ H1 (fun vs H2 => ∃ ds M2, Fz ⟨X.K, CR, P⟩ H1 M1 H2 M2 ∧ Good ⟨X.K, CR, P⟩ H2 M2 ∧ Reps ⟨X.K, CR, P⟩ H2 M2 ds vs ∧ sp (d :: ds) M2 Qd fun C ns fs M' => E C ns fs δ M') I1 ⟨P, δ, M1, _, hS.mono z1, g1, x.trans z1, q1, fun vs H2 ds M2 z2 g2 rs q2 => ⟨ds, M2, z2, g2, rs, q2.2⟩⟩) fun us s2 ⟨vs, H2, I2, r, ds, M2, z2, g2, rs, q2⟩ => ⟨I2.kIn, ?_⟩) hst hpl
  refine run_fnS (E := fun σ c d H' => W c d σ H') (us := .ref a :: us) (vs := .ref a :: vs) F (hr.mono hk) hb (passAt tk σ) I2 (.cons rfl r) ?_
  exact ⟨P, d :: ds, M2, Qd, _, ⟨_, _, rfl, r1.mono z2, rs⟩, g2, q2, fun v H' l => kk v H' (l.trans (z1.trans z2)), lfx_w ((hS.mono z1).mono z2) (x.trans (z1.trans z2))⟩
end
/-! ### dicts with texts for keys -/
def getK {α : Type} : List Str → List α → Str → Option α
  | k :: ks, x :: xs, j => if k = j then some x else getK ks xs j
  | _, _, _ => none
def setK {α : Type} : List Str → List α → Str → α → List α
  | k :: ks, x :: xs, j, y => (if k = j then y else x) :: setK ks xs j y
  | _, _, _, _ => []
def delK {α : Type} : List Str → List α → Str → List α
  | k :: ks, x :: xs, j => if k = j then delK ks xs j else x :: delK ks xs j
  | _, _, _ => []
/-- its items -/
abbrev kvsOf (ks : List Str) (vs : List V) : List (Key × V) := (ks.map Sum.inr).zip vs
theorem valV_getK (j : Str) : ∀ (ks : List Str) (vs : List V), valV (kvsOf ks vs) (Sum.inr j : Key) = getK ks vs j
  | [], _ => rfl
  | k :: ks, [] => rfl
  | k :: ks, v :: vs => by
    show valV ((Sum.inr k, v) :: kvsOf ks vs) _ = if k = j then some v else getK ks vs j
    by_cases h : k = j
    · rw [if_pos h, valV_pos (by rw [h])]
    · rw [if_neg h, valV_neg (fun e => h (Sum.inr.inj e)), valV_getK j ks vs]
theorem getK_rep {O : Own} {H M} (j : Str) : ∀ {ks : List Str} {xs : List D} {vs : List V}, Reps O H M xs vs → (∀ y, getK ks xs j = some y → ∃ v, getK ks vs j = some v ∧ Rep O H M y v) ∧ (getK ks xs j = none → getK ks vs j = none)
  | [], _, _, _ => ⟨fun y h => (by cases h), fun _ => rfl⟩
  | k :: ks, [], vs, r => by
    rw [show vs = [] from r]
    exact ⟨fun y h => (by cases h), fun _ => rfl⟩
  | k :: ks, x :: xs, vs, r => by
    obtain ⟨v, us, rfl, r1, r2⟩ := r
    obtain ⟨a, b⟩ := getK_rep j (ks := ks) r2
    unfold getK
    by_cases h : k = j
    · rw [if_pos h, if_pos h]
      exact ⟨fun y e => (by cases e; exact ⟨v, rfl, r1⟩), fun e => (by cases e)⟩
    · rw [if_neg h, if_neg h]; exact ⟨a, b⟩
theorem getK_some {α β : Type} (j : Str) : ∀ {ks : List Str} {xs : List α} {vs : List β}, xs.length = vs.length → (getK ks xs j).isSome = (getK ks vs j).isSome
  | [], _, _, _ => rfl
  | k :: ks, [], [], _ => rfl
  | k :: ks, x :: xs, v :: vs, h => by
    unfold getK
    by_cases e : k = j
    · rw [if_pos e, if_pos e]; rfl
    · rw [if_neg e, if_neg e]; exact getK_some j (by simpa using h)
  | k :: ks, [], v :: vs, h => by cases h
  | k :: ks, x :: xs, [], h => by cases h
theorem getK_mem {α : Type} (j : Str) : ∀ {ks : List Str} {xs : List α}, ks.length = xs.length → ((getK ks xs j).isSome = true ↔ j ∈ ks)
  | [], _, _ => ⟨fun h => (by cases h), fun h => (nomatch h)⟩
  | k :: ks, [], h => by cases h
  | k :: ks, x :: xs, h => by
    unfold getK
    by_cases e : k = j
    · rw [if_pos e]; exact ⟨fun _ => e ▸ List.mem_cons_self, fun _ => rfl⟩
    · rw [if_neg e, getK_mem j (by simpa using h), List.mem_cons]
      exact ⟨.inr, fun h => h.elim (fun z => absurd z.symm e) id⟩
theorem putK_old (j : Str) (y : V) : ∀ {ks : List Str} {vs : List V}, ks.length = vs.length → j ∈ ks → putK (kvsOf ks vs) (Sum.inr j) y = kvsOf ks (setK ks vs j y) := by
  intro ks vs hl hm
  unfold putK
  rw [valV_any, valV_getK, if_pos ((getK_mem j hl).mpr hm)]
  clear hm
  induction ks generalizing vs with
  | nil => cases vs <;> rfl
  | cons k ks ih =>
    cases vs with
    | nil => cases hl
    | cons v vs =>
      show (if (Sum.inr k : Key) = Sum.inr j then (Sum.inr k, y) else (Sum.inr k, v)) :: (kvsOf ks vs).map _ = (Sum.inr k, if k = j then y else v) :: kvsOf ks (setK ks vs j y)
      rw [ih (by simpa using hl)]
      by_cases e : k = j
      · rw [if_pos e, if_pos (by rw [e])]
      · rw [if_neg e, if_neg (fun z => e (Sum.inr.inj z))]
theorem putK_app (j : Str) (y : V) {ks : List Str} {vs : List V} (hl : ks.length = vs.length) (hm : j ∉ ks) : putK (kvsOf ks vs) (Sum.inr j) y = kvsOf (ks ++ [j]) (vs ++ [y]) := by
  unfold putK
  rw [valV_any, valV_getK, if_neg (fun h => hm ((getK_mem j hl).mp h))]
  unfold kvsOf
  rw [List.map_append, List.zip_append (by rw [List.length_map]; exact hl)]; rfl
theorem dropK_kvs (j : Str) : ∀ {ks : List Str} {vs : List V}, ks.length = vs.length → dropK (kvsOf ks vs) (Sum.inr j) = kvsOf (delK ks ks j) (delK ks vs j) ∧ (delK ks ks j).length = (delK ks vs j).length
  | [], [], _ => ⟨rfl, rfl⟩
  | k :: ks, v :: vs, h => by
    obtain ⟨a, b⟩ := dropK_kvs j (ks := ks) (vs := vs) (by simpa using h)
    have e0 : dropK (kvsOf (k :: ks) (v :: vs)) (Sum.inr j) = if k = j then dropK (kvsOf ks vs) (Sum.inr j) else (Sum.inr k, v) :: dropK (kvsOf ks vs) (Sum.inr j) := by
      show List.filter _ ((Sum.inr k, v) :: kvsOf ks vs) = _
      rw [List.filter_cons]
      by_cases e : k = j
      · rw [if_pos e, if_neg (by simp [e])]; rfl
      · rw [if_neg e, if_pos (by simp [e])]; rfl
    rw [e0]
    show _ = kvsOf (if k = j then delK ks ks j else k :: delK ks ks j) (if k = j then delK ks vs j else v :: delK ks vs j) ∧ _
    by_cases e : k = j
    · rw [if_pos e, if_pos e, if_pos e]; refine ⟨a, ?_⟩; show (if k = j then _ else _ : List _).length = (if k = j then _ else _ : List _).length; rw [if_pos e, if_pos e]; exact b
    · rw [if_neg e, if_neg e, if_neg e, a]; refine ⟨rfl, ?_⟩; show (if k = j then _ else _ : List _).length = (if k = j then _ else _ : List _).length; rw [if_neg e, if_neg e, List.length_cons, List.length_cons, b]
  | [], v :: vs, h => by cases h
  | k :: ks, [], h => by cases h
theorem setK_len {α : Type} (j : Str) (y : α) : ∀ {ks : List Str} {xs : List α}, ks.length = xs.length → (setK ks xs j y).length = xs.length
  | [], [], _ => rfl
  | k :: ks, x :: xs, h => by
    show (_ :: setK ks xs j y).length = _
    rw [List.length_cons, List.length_cons, setK_len j y (by simpa using h)]
  | [], x :: xs, h => by cases h
  | k :: ks, [], h => by cases h
theorem reps_setK {O : Own} {H M} {j : Str} {y : D} {v : V} (r0 : Rep O H M y v) : ∀ {ks : List Str} {xs : List D} {vs : List V}, Reps O H M xs vs → Reps O H M (setK ks xs j y) (setK ks vs j v)
  | [], [], vs, r => by rw [show vs = [] from r]; exact rfl
  | [], x :: xs, vs, r => by obtain ⟨v1, us, rfl, _, _⟩ := r; exact rfl
  | k :: ks, [], vs, r => by rw [show vs = [] from r]; exact rfl
  | k :: ks, x :: xs, vs, r => by
    obtain ⟨v1, us, rfl, r1, r2⟩ := r
    refine ⟨if k = j then v else v1, setK ks us j v, rfl, ?_, reps_setK r0 r2⟩
    by_cases e : k = j
    · rw [if_pos e, if_pos e]; exact r0
    · rw [if_neg e, if_neg e]; exact r1
theorem reps_delK {O : Own} {H M} {j : Str} : ∀ {ks : List Str} {xs : List D} {vs : List V}, Reps O H M xs vs → Reps O H M (delK ks xs j) (delK ks vs j)
  | [], [], vs, r => by rw [show vs = [] from r]; exact rfl
  | [], x :: xs, vs, r => by obtain ⟨v1, us, rfl, _, _⟩ := r; exact rfl
  | k :: ks, [], vs, r => by rw [show vs = [] from r]; exact rfl
  | k :: ks, x :: xs, vs, r => by
    obtain ⟨v1, us, rfl, r1, r2⟩ := r
    show Reps O H M (if k = j then delK ks xs j else x :: delK ks xs j) (if k = j then delK ks us j else v1 :: delK ks us j)
    by_cases e : k = j
    · rw [if_pos e, if_pos e]; exact reps_delK r2
    · rw [if_neg e, if_neg e]; exact ⟨v1, _, rfl, r1, reps_delK r2⟩
/-! ### several except clauses, each with a name -/
/-- what the clauses wish of an error of the body, one after the other -/
def wManyA (K : PySem.W.Frag) (i : Nat) (Wout : WX) (D : Ends) : List (Value × (Addr → Value → Option Addr → TS)) → WX
  | [] => Wout
  | (c, ts) :: r => fun cls d σ H => ∃ b, PySem.W.exmOne K cls c = some b ∧
      (b = true → ∀ a, H a = none → ts a cls d { nx := fun σ' H' => D.nx (σ'.set i none) H', rt := D.rt, bk := fun σ' H' => D.bk (σ'.set i none) H', ct := fun σ' H' => D.ct (σ'.set i none) H' } (σ.set i (some (.ref a))) H) ∧ (b = false → wManyA K i Wout D r cls d σ H)
inductive HdsA (X : Cx) (n : Str) : List ExceptHandler → List (Value × (Addr → Value → Option Addr → TS)) → Prop
  | nil : HdsA X n [] []
  | cons {x : Str} {c : Value} {ts : Addr → Value → Option Addr → TS} {b₀ : Stmt} {suite : List Stmt} {np pos' : Pos} {hds : List ExceptHandler} {l : List (Value × (Addr → Value → Option Addr → TS))} (hc : Names X x c)
      (hsu : ∀ (a : Addr) (oe : Obj) (cls : Value) (d : Option Addr) (pn : List (Addr × Obj)), Zc cls d oe → (∃ vs, oe.data = .fields vs) → PSs (X.suite a ((a, oe) :: pn)) (b₀ :: suite) (ts a cls d)) (r : HdsA X n hds l) :
      HdsA X n (.ExceptHandler (some (.Name x np)) (some n) (b₀ :: suite) pos' :: hds) ((c, ts) :: l)
section
variable {X : Cx} {body : List Stmt} {h₀ : ExceptHandler} {hds : List ExceptHandler} {l : List (Value × (Addr → Value → Option Addr → TS))} {pos : Pos} {tb : WX → TS} {Wout : WX} {n : Str} {i : Nat}
theorem ps_try_manyA (hs : X.stack = X.env :: X.outer) (hf : X.env.frame = some X.env.locals) (hN : X.N.Nodup) (hi : X.N[i]? = some n) (hln : X.env.kindOf n = some .local) (tk : Takes X Wout)
    (hb : ∀ (W : WX) (pn : List (Addr × Obj)) (xe : Value → Shared → Prop), Takes (X.tr pn xe) W → PassesOwn (model X.prog X.w) X.A X.env xe → PSs (X.tr pn xe) body (tb W))
    (hh : HdsA X n (h₀ :: hds) l) : PS X (.Try body (h₀ :: hds) [] [] pos) (fun D σ H => tb (wManyA X.K i Wout D l) D σ H) := by
  refine ⟨fun pins s σ H D I h => ?_⟩
  have ok := I.ok
  have hfr : X.A.frames = some (X.env :: X.outer) := by rw [ok.frames, hs]
  have hloc : Loc X.env.scope n := .inl hln
  refine wpAny_Try_except ?_
  refine wpAny_mono ((hb (wManyA X.K i Wout D l) (X.pn ++ pins) (fun e s₁ => wpAny (model X.prog X.w) X.A (noteFrame e X.env) (fun _ s₂ => wpAny (model X.prog X.w) X.A (setFlight e none) (fun _ s₃ =>
    wpAny (model X.prog X.w) X.A (handleBy e X.env (h₀ :: hds)) (SP X pins D) X.xe s₃) X.xe s₂) X.xe s₁) (fun u s' xx => ?_) PassesOwn.looking).run [] s σ H D (I.toTry _) h) (fun f s1 hsp => ?_) (fun e s1 he => he)
  · -- the catch
    obtain ⟨a, B, sI, pins', σ', H', cls, d, rfl, J', nb, up, sky, na, os, ag, w⟩ := xx
    have J : Inv X pins σ' H' sI := J'.ofTry ok
    have sky' : Sky B (X.env :: X.outer) a (Zc cls d) X.env.locals s'.heap := by rw [← hs]; exact sky
    show wpAny (model X.prog X.w) X.A (noteFrame (.ref a) X.env) _ _ _
    refine Sky.land Zc.steady hfr hf sky' fun h3 fl3 up3 => ?_
    have J3 : Inv X pins σ' H' { s' with heap := h3 } := J.landed nb fl3.1 (up.trans up3) os ag
    obtain ⟨oe3, vs3, he3, hz3, hd3⟩ := fl3.there
    have notFr : ∀ {h : Heap} {o : Obj} {vs : Array Value}, h.FunFrames B (X.env :: X.outer) → h.get? a = some o → o.data = .fields vs → a ∉ frs (X.env :: X.outer) := fun {h o vs} ff e dd hm => by
      obtain ⟨_, o', e', hnf⟩ := ff.mem hm
      rw [e] at e'; cases e'
      exact hnf _ dd
    have nfr := notFr fl3.2.2.1 he3 hd3
    have nL : a ≠ X.env.locals := fun z => nfr (List.mem_filterMap.mpr ⟨X.env, List.mem_cons_self, by rw [hf, z]⟩)
    have nF : a ∉ X.fs := fun hm => by
      obtain ⟨e, he, q⟩ := List.mem_filterMap.mp hm
      exact nfr (List.mem_filterMap.mpr ⟨e, List.mem_cons_of_mem _ he, q⟩)
    have S3 := J3.suite he3 hd3 na nL nF
    have go : ∀ {hds' : List ExceptHandler} {l' : List (Value × (Addr → Value → Option Addr → TS))}, HdsA X n hds' l' → wManyA X.K i Wout D l' cls d σ' H' →
        wpAny (model X.prog X.w) X.A (handleBy (.ref a) X.env hds') (SP X pins D) X.xe { s' with heap := h3 } := by
      intro hds' l' hk
      induction hk with
      | nil =>
        intro w
        refine wpAny_handleBy_nil ?_
        obtain ⟨k1, k2, k3, oe, vs, T, oT, ts', he, hz, hd, h1, hr⟩ := id fl3
        unfold PySem.passOn
        refine wpAny_bind (wpAny_field he hd h1 ?_)
        rw [if_neg (show ¬ ((Value.ref T == Value.none) = true) from by simp)]
        have fin : wpAny (model X.prog X.w) X.A (setFlight (.ref a) X.env.frame) (fun _ s4 => wpAny (model X.prog X.w) X.A (throw (.ref a) : Sem Flow) (SP X pins D) X.xe s4) X.xe { s' with heap := h3 } := by
          rw [hf]
          refine HandSPX.setFlight_upZ fl3 fun h4 hh4 up4 => wpAny_throw (tk _ _ ?_)
          exact ⟨a, B, sI, pins, σ', H', cls, d, rfl, J, nb, (up.trans up3).trans up4, .inr (.inr (by rw [hs]; exact hh4)), na, os, ag, w⟩
        first
          | exact wpAny_bind (wpAny_pure (wpAny_bind fin))
          | exact wpAny_bind fin
      | @cons x c ts b₀ suite np pos' hds2 l2 hc hsu r ih =>
        intro w
        obtain ⟨b, hb1, hyes, hno⟩ := w
        refine wpAny_handleBy_cons (codeAny_handlers_test ?_) (by intro q; cases q)
        have LT : PySem.W.Looks (model X.prog X.w) h3 (typeOf (.ref a)) cls := fun A Q E s k q => wpAny_typeOf_ref (k _ _ he3) (by rw [hz3.1]; exact q)
        have LM := PySem.W.exm_one (M := model X.prog X.w) (J3.kIn) LT hb1
        have test : ∀ {Q : Value → Shared → Prop} {E : Value → Shared → Prop}, Q c { s' with heap := h3 } → wpAny (model X.prog X.w) (X.A.mark (some (.ref a))) (eval (.Name x np) X.env) Q E { s' with heap := h3 } := fun {Q E} q => by
          obtain ⟨hg, hdbg, hm | ⟨hm, hv, hnn⟩⟩ := hc
          · exact ld_glob (X := X.suite a ((a, oe3) :: (X.pn ++ pins))) S3 hg hm q hdbg
          · exact ld_blt (X := X.suite a ((a, oe3) :: (X.pn ++ pins))) S3 hg hm hv q hnn hdbg
        refine test (LM.here ?_)
        cases b with
        | true =>
          refine codeAny_handlers_suite_as ?_
          refine HandSPX.lands_againZ fl3 fun h4 fl4 up4 => ?_
          have J4 : Inv X pins σ' H' { s' with heap := h4 } := J.landed nb fl4.1 ((up.trans up3).trans up4) os ag
          obtain ⟨oe4, vs4, he4, hz4, hd4⟩ := fl4.there
          have S4 := J4.suite he4 hd4 na nL nF
          refine store_ok (X := X.suite a ((a, oe4) :: (X.pn ++ pins))) (v := .ref a) S4 hN hi hloc rfl (fun s5 S5 => ?_) (.inr hln)
          refine wpAny_mono ((hsu a oe4 cls d (X.pn ++ pins) hz4 ⟨_, hd4⟩).run [] s5 _ H' _ S5 (hyes rfl a na)) (fun f s6 hsp => ?_) (fun _ _ z => False.elim z)
          have end_ : ∀ {σ6 : L2.St} {H6 : Hp} {Q : Shared → Prop}, Inv (X.suite a ((a, oe4) :: (X.pn ++ pins))) [] σ6 H6 s6 → (∀ s7, Inv X pins (σ6.set i none) H6 s7 → Q s7) →
              wpAny (model X.prog X.w) X.A (do bindName X.env n .none; unbindBehindTheSuite X.env n pos') (fun _ s7 => Q s7) X.xe s6 := fun {σ6 H6 Q} S6 hq => gone_ok (S6.unsuite ok) hN hi hln hq
          cases f with
          | next =>
            obtain ⟨σ6, H6, S6, q6⟩ := hsp
            exact end_ S6 fun s7 J7 => ⟨_, _, J7, q6⟩
          | brk =>
            obtain ⟨σ6, H6, S6, q6⟩ := hsp
            exact end_ S6 fun s7 J7 => ⟨_, _, J7, q6⟩
          | cont =>
            obtain ⟨σ6, H6, S6, q6⟩ := hsp
            exact end_ S6 fun s7 J7 => ⟨_, _, J7, q6⟩
          | ret u =>
            obtain ⟨v6, σ6, H6, S6, r6, q6⟩ := hsp
            exact end_ S6 fun s7 J7 => ⟨_, _, _, J7, r6, q6⟩
        | false =>
          show wpAny _ X.A (handleBy (.ref a) X.env hds2) _ _ _
          exact ih (hno rfl)
    exact go hh w
  · cases f with
    | next =>
      obtain ⟨σ', H', J', q⟩ := hsp
      exact wpAny_execs_nil ⟨σ', H', J'.ofTry ok, q⟩
    | brk =>
      obtain ⟨σ', H', J', q⟩ := hsp
      exact ⟨σ', H', J'.ofTry ok, q⟩
    | cont =>
      obtain ⟨σ', H', J', q⟩ := hsp
      exact ⟨σ', H', J'.ofTry ok, q⟩
    | ret u =>
      obtain ⟨v, σ', H', J', r, q⟩ := hsp
      exact ⟨v, σ', H', J'.ofTry ok, r, q⟩
end
/-! over data: each clause's error has one flat field -/
structure Hd where
  C : Addr
  f : Str
  ws : Addr → D → DSt
/-- which clause takes an error of the class at C -/
def pick (C : Addr) (f : Str) : List Hd → Option Hd
  | [] => none
  | h :: r => if h.C = C ∧ h.f = f then some h else pick C f r
def dTryM (i : Nat) (wb : DXS → DSt) (hs : List Hd) : DSt := fun Dn δ M => wb (fun C ns fs δ' M' => ∃ f y h, ns = [f] ∧ fs = [y] ∧ flatD y = true ∧ pick C f hs = some h ∧ ∀ a, h.ws a y { nx := fun δ2 M2 => Dn.nx (δ2.set i none) M2, rt := Dn.rt, bk := fun δ2 M2 => Dn.bk (δ2.set i none) M2, ct := fun δ2 M2 => Dn.ct (δ2.set i none) M2 } (δ'.set i (some (.ref a))) M') Dn δ M
/-- the classes are not one another's -/
def Apart (K : PySem.W.Frag) (hs : List Hd) : Prop := ∀ h h', h ∈ hs → h' ∈ hs → PySem.W.exmOne K (.ref h.C) (.ref h'.C) = some (decide (h.C = h'.C))
section
variable {X : Cx} {CR : Addr} {E : DXS} {W : WX} {pos : Pos} {n : Str} {i : Nat}
/-- what of a clause's suite is wanted -/
def SuOk (X : Cx) (CR : Addr) (C : Addr) (f : Str) (suite : List Stmt) (ws : Addr → D → DSt) : Prop := ∀ (a : Addr) (oe : Obj) (d : Option Addr) (y : D) (W' : WX) (pn : List (Addr × Obj)), Zc (.ref C) d oe → (∃ vs, oe.data = .fields vs) → flatD y = true → (∀ c d' σ' H', W' c d' σ' H' → Held d f y H') → PDSs (X.suite a ((a, oe) :: pn)) (bs X CR tru W') suite (ws a y)
def suTS (X : Cx) (CR : Addr) (C : Addr) (f : Str) (ws : Addr → D → DSt) : Addr → Value → Option Addr → TS := fun a cls d Dn σ H => ∃ (y : D) (W' : WX), cls = .ref C ∧ flatD y = true ∧ (∀ c d' σ' H', W' c d' σ' H' → Held d f y H') ∧ lS (bs X CR tru W') (ws a y) Dn σ H
inductive HdsD (X : Cx) (CR : Addr) (n : Str) : List ExceptHandler → List Hd → Prop
  | nil : HdsD X CR n [] []
  | cons {x f : Str} {C : Addr} {ws : Addr → D → DSt} {b₀ : Stmt} {suite : List Stmt} {np pos' : Pos} {hds : List ExceptHandler} {l : List Hd} (hc : Names X x (.ref C)) (hsu : SuOk X CR C f (b₀ :: suite) ws) (r : HdsD X CR n hds l) :
      HdsD X CR n (.ExceptHandler (some (.Name x np)) (some n) (b₀ :: suite) pos' :: hds) (⟨C, f, ws⟩ :: l)
def ofHd (X : Cx) (CR : Addr) (h : Hd) : Value × (Addr → Value → Option Addr → TS) := (.ref h.C, suTS X CR h.C h.f h.ws)
theorem HdsD.hds {hds : List ExceptHandler} {l : List Hd} (h : HdsD X CR n hds l) : HdsA X n hds (l.map (ofHd X CR)) := by
  induction h with
  | nil => exact .nil
  | cons hc hsu r ih => exact .cons hc (fun a oe cls d pn hz hv => ⟨fun p s σ H Dn I ⟨y, W', h1, h2, h3, q⟩ => by
      subst h1
      exact (hsu a oe d y W' pn hz hv h2 h3).run p s σ H Dn I q⟩) ih
theorem pick_mem {C : Addr} {f : Str} {h : Hd} : ∀ {hs : List Hd}, pick C f hs = some h → h ∈ hs ∧ h.C = C ∧ h.f = f
  | [], e => by cases e
  | x :: hs, e => by
    unfold pick at e
    by_cases c : x.C = C ∧ x.f = f
    · rw [if_pos c] at e; cases e; exact ⟨List.mem_cons_self, c⟩
    · rw [if_neg c] at e
      obtain ⟨a, b⟩ := pick_mem e
      exact ⟨List.mem_cons_of_mem _ a, b⟩
theorem s_tryM {body : List Stmt} {h₀ : ExceptHandler} {hds : List ExceptHandler} {l : List Hd} {wb : DXS → DSt} (ap : Apart X.K l) (one : ∀ h h', h ∈ l → h' ∈ l → h.C = h'.C → h.f = h'.f) (tk : Takes X W) (hN : X.N.Nodup)
    (hb : ∀ (E' : DXS) (W' : WX) (pn : List (Addr × Obj)) (xe : Value → Shared → Prop), Takes (X.tr pn xe) W' → PassesOwn (model X.prog X.w) X.A X.env xe → PDSs (X.tr pn xe) (bs X CR E' W') body (wb E'))
    (hh : HdsD X CR n (h₀ :: hds) l) (hi : X.N[i]? = some n := by rfl) (hln : X.env.kindOf n = some .local := by rfl) (hs : X.stack = X.env :: X.outer := by rfl) (hf : X.env.frame = some X.env.locals := by rfl) :
    PDS X (bs X CR E W) (.Try body (h₀ :: hds) [] [] pos) (dTryM i wb l) := by
  refine (ps_try_manyA (tb := fun W' Dn σ H => ∃ E', lS (bs X CR E' W') (wb E') Dn σ H) (Wout := W) hs hf hN hi hln tk
    (fun W' pn xe tk' po => ⟨fun p s σ H Dn I ⟨E', q⟩ => (hb E' W' pn xe tk' po).run p s σ H Dn I q⟩) hh.hds).imp fun Dn σ H h => ?_
  obtain ⟨P, δ, M, Dd, hS, g, xl, w, k⟩ := h
  refine ⟨_, P, δ, M, Dd, hS, g, ?_, w, k⟩
  rintro c d σ' H' ⟨C', ns, fs, δ', M', rfl, z, g', hS', er, f, y, h, rfl, rfl, hy, hp, hw⟩
  obtain ⟨hd, dd, ed, fr⟩ := errD_one er hy
  have kt := k.trans z
  obtain ⟨hm, eC, ef⟩ := pick_mem hp
  subst eC; subst ef
  have go : ∀ l' : List Hd, (∀ x, x ∈ l' → x ∈ l) → pick h.C h.f l' = some h → wManyA X.K i W Dn (l'.map (ofHd X CR)) (.ref h.C) d σ' H' := by
    intro l'
    induction l' with
    | nil => intro _ e; cases e
    | cons x l' ih =>
      intro sub e
      have hx := sub x List.mem_cons_self
      refine ⟨decide (h.C = x.C), ap h x hm hx, fun eb a ha => ?_, fun eb => ?_⟩
      · have exC : h.C = x.C := of_decide_eq_true eb
        have ex : x = h := by
          unfold pick at e
          rw [if_pos ⟨exC.symm, one x h hx hm exC.symm⟩] at e
          cases e; rfl
        subst ex
        refine ⟨y, LfXS ⟨X.K, CR, P⟩ H' M' tru, rfl, hy, fun c d' σ2 H2 ⟨_, _, _, _, M2, _, z2, _⟩ => ?_, P, _, M', _, hS'.set (d := .ref a) (v := .ref a) rfl, g', fun c d' σ2 H2 h => h, hw a, ?_⟩
        · obtain ⟨dd', ed', eh⟩ := hd
          exact ⟨dd', ed', (z2.st dd' _ (by rw [ed] at ed'; cases ed'; exact fr) eh).1⟩
        · exact ⟨fun σ H' ⟨δ2, M2, z2, g2, hS2, q⟩ => kt.nx _ H' ⟨_, M2, z2, g2, hS2.unset, q⟩, kt.rt, fun σ H' ⟨δ2, M2, z2, g2, hS2, q⟩ => kt.bk _ H' ⟨_, M2, z2, g2, hS2.unset, q⟩, fun σ H' ⟨δ2, M2, z2, g2, hS2, q⟩ => kt.ct _ H' ⟨_, M2, z2, g2, hS2.unset, q⟩⟩
      · have exC : ¬ h.C = x.C := of_decide_eq_false eb
        refine ih (fun z hz => sub z (List.mem_cons_of_mem _ hz)) ?_
        unfold pick at e
        rw [if_neg fun z => exC z.1.symm] at e
        exact e
  exact go l (fun x h => h) hp
end
/-! ### dicts: rules -/
section
variable {X : Cx} {CR : Addr} {E : DXS} {W : WX} {pos pos' p2 : Pos} {e o i value : Expr} {w wo wi wv : DE}
def dDNew : DE := fun _ M Q => ∀ p, M p = none → Q (.ref p) (mput M p (.dic [] []))
theorem newM {O : Own} {H M} {p : Addr} {ho : HO} {mo : MO} {Q : DK} (g : Good O H M) (hp : H p = none) (r : ∀ H' M', Fz O H M H' M' → H' p = some ho → RepO O H' M' p mo) (q : Q (.ref p) (mput M p mo)) : LfV O H M Q (.ref p) (upd H p ho) := by
  have z : Fz O H M (upd H p ho) (mput M p mo) := fz_newM g hp
  exact ⟨.ref p, _, z, good_put g (g.none hp).2 z (r _ _ z upd_same), rfl, q⟩
theorem d_dnew : PD X (bs X CR E W) (.Dict [] [] pos) dDNew := by
  refine (pe_dnewK).imp fun σ H Q h => ?_
  obtain ⟨P, δ, M, Qd, hS, g, x, w, k⟩ := h
  intro p hp
  exact k _ _ (newM (mo := .dic [] []) g hp (fun H' M' z e => ⟨[], e, rfl, rfl⟩) (w p (g.none hp).1))
/-- {k: v, ..} with texts written for keys -/
def dVals : List DE → DS0 → Mem → (List D → Mem → Prop) → Prop
  | [], _, M, Q => Q [] M
  | w :: ws, δ, M, Q => w δ M fun x M1 => dVals ws δ M1 fun xs M2 => Q (x :: xs) M2
def dDDisp (ks : List Str) (ws : List DE) : DE := fun δ M Q => ∀ p, M p = none → dVals ws δ (mput M p (.dic [] [])) fun xs M2 => M2 p = some (.dic [] []) ∧ xs.length = ks.length ∧ Q (.ref p) (mput M2 p (.dic ks xs))
inductive PKD (X : Cx) (B : Bs) : List (Option Expr) → List Expr → List Str → List DE → Prop where
  | nil : PKD X B [] [] [] []
  | cons {ke e : Expr} {k : Str} {w : DE} {kes : List (Option Expr)} {es : List Expr} {ks : List Str} {ws : List DE} (hk : PD X B ke (dC (.str k))) (he : PD X B e w) (r : PKD X B kes es ks ws) : PKD X B (some ke :: kes) (e :: es) (k :: ks) (w :: ws)
def trsOf (B : Bs) : List Str → List DE → List (TE × TE)
  | k :: ks, w :: ws => (lE B (dC (.str k)), lE B w) :: trsOf B ks ws
  | _, _ => []
theorem PKD.pps {B : Bs} {kes : List (Option Expr)} {es : List Expr} {ks : List Str} {ws : List DE} (h : PKD X B kes es ks ws) : PPs X pos kes es (trsOf B ks ws) := by
  induction h with
  | nil => exact pps_nil
  | cons hk he r ih => exact pps_cons hk he ih
theorem pairs_of {P : Addr → Prop} {B : Bs} {σ : L2.St} {δ : DS0} : ∀ (ks : List Str) (ws : List DE) (H : Hp) (M : Mem) (Qd : List D → Mem → Prop) (Q : List (V × V) → Hp → Prop), ks.length = ws.length → RepS ⟨B.K, B.CR, P⟩ H M δ σ → Good ⟨B.K, B.CR, P⟩ H M → XL ⟨B.K, B.CR, P⟩ H M B.E B.W → dVals ws δ M Qd →
    (∀ xs vs H' M', Fz ⟨B.K, B.CR, P⟩ H M H' M' → Good ⟨B.K, B.CR, P⟩ H' M' → Reps ⟨B.K, B.CR, P⟩ H' M' xs vs → ks.length = vs.length → Qd xs M' → Q ((ks.map V.str).zip vs) H') → tPairs (trsOf B ks ws) σ H Q
  | [], [], H, M, Qd, Q, _, hS, g, x, h, k => k [] [] H M Fz.refl g rfl rfl h
  | k0 :: ks, w :: ws, H, M, Qd, Q, hl, hS, g, x, h, k => by
    refine ⟨P, δ, M, (fun d M' => d = .str k0 ∧ M' = M), hS, g, x, ⟨rfl, rfl⟩, fun vx H1 ⟨d, M1, z1, g1, r1, ed, eM⟩ => ?_⟩
    subst ed; subst eM
    rw [show vx = .str k0 from r1]
    refine ⟨P, δ, M1, _, hS.mono z1, g1, x.trans z1, h, fun vy H2 ⟨d2, M2, z2, g2, r2, q2⟩ => ?_⟩
    refine pairs_of ks ws H2 M2 _ _ (by simpa using hl) ((hS.mono z1).mono z2) g2 ((x.trans z1).trans z2) q2 fun xs vs H' M' z g' rs hl2 q' => ?_
    exact k (d2 :: xs) (vy :: vs) H' M' ((z1.trans z2).trans z) g' ⟨vy, vs, rfl, r2.mono z, rs⟩ (by simp [hl2]) q'
  | [], w :: ws, _, _, _, _, hl, _, _, _, _, _ => by cases hl
  | k :: ks, [], _, _, _, _, hl, _, _, _, _, _ => by cases hl
theorem mergeK_of : ∀ (ks : List Str) (vs : List V) (acc : List (Key × V)), ks.length = vs.length → ks.Nodup → (∀ k, k ∈ ks → valV acc (Sum.inr k : Key) = none) → mergeK acc (kvsOf ks vs) = acc ++ kvsOf ks vs
  | [], [], acc, _, _, _ => by show acc = acc ++ []; rw [List.append_nil]
  | k :: ks, v :: vs, acc, hl, hn, ha => by
    obtain ⟨h1, h2⟩ := List.nodup_cons.mp hn
    show mergeK (putK acc (Sum.inr k) v) (kvsOf ks vs) = acc ++ ((Sum.inr k, v) :: kvsOf ks vs)
    rw [putK_new v (ha k List.mem_cons_self), mergeK_of ks vs _ (by simpa using hl) h2 fun j hj => ?_, List.append_assoc]
    · rfl
    · rw [valV_snoc _ _ _ _ (ha k List.mem_cons_self), if_neg (fun e => h1 (by rw [← Sum.inr.inj e]; exact hj))]
      exact ha j (List.mem_cons_of_mem _ hj)
  | [], v :: vs, _, hl, _, _ => by cases hl
  | k :: ks, [], _, hl, _, _ => by cases hl
theorem kvs_pairs : ∀ (ks : List Str) (vs : List V), (ks.map V.str).zip vs = (kvsOf ks vs).map fun kv => (kV kv.1, kv.2)
  | [], _ => rfl
  | k :: ks, [] => rfl
  | k :: ks, v :: vs => by
    show (V.str k, v) :: (ks.map V.str).zip vs = (kV (Sum.inr k), v) :: (kvsOf ks vs).map _
    rw [kvs_pairs ks vs]; rfl
theorem d_ddisp {kes : List (Option Expr)} {es : List Expr} {ks : List Str} {ws : List DE} (h : PKD X (bs X CR E W) kes es ks ws) (hn : ks.Nodup) (hw : ks.length = ws.length) (hall : kes.all (·.isSome) = true) (hl : kes.length = es.length) (h0 : kes ≠ []) (h15 : kes.length ≤ 15) (hk15 : ks.length ≤ 15) : PD X (bs X CR E W) (.Dict kes es pos) (dDDisp ks ws) := by
  refine (pe_disp h.pps hall hl h0 h15).imp fun σ H Q hh => ?_
  obtain ⟨P, δ, M, Qd, hS, g, x, w, k⟩ := hh
  intro p hp
  have z0 : Fz ⟨X.K, CR, P⟩ H M (upd H p (.dK [])) (mput M p (.dic [] [])) := fz_newM g hp
  have g0 : Good ⟨X.K, CR, P⟩ (upd H p (.dK [])) (mput M p (.dic [] [])) := good_put g (g.none hp).2 z0 ⟨[], upd_same, rfl, rfl⟩
  refine pairs_of ks ws _ _ _ _ hw (hS.mono z0) g0 (x.trans z0) (w p (g.none hp).1) fun xs vs H' M' z g' rs hl2 q' => ?_
  obtain ⟨em, hlx, q⟩ := q'
  obtain ⟨us, e1, l1, r1⟩ := g'.at_ p _ em
  have e1 : H' p = some (.dK []) := e1
  refine ⟨e1, kvsOf ks vs, kvs_pairs ks vs, ?_, ?_⟩
  · show ((ks.map Sum.inr).zip vs).length ≤ 15
    rw [List.length_zip, List.length_map]; omega
  · rw [mergeK_of ks vs [] hl2 hn (fun k _ => rfl), List.nil_append]
    have z3 : Fz ⟨X.K, CR, P⟩ H' M' (upd H' p (.dK (kvsOf ks vs))) (mput M' p (.dic ks xs)) := fz_put g' em
    exact k _ _ ⟨.ref p, _, (z0.trans z).trans z3, good_put g' (g'.noP em) z3 ⟨vs, upd_same, hl2, rs.mono z3⟩, rfl, q⟩
/-- d[k] -/
def dDGet (wo wi : DE) : DE := fun δ M Q => wo δ M fun o M1 => wi δ M1 fun j M2 => ∃ p ks xs k y, o = .ref p ∧ j = .str k ∧ M2 p = some (.dic ks xs) ∧ getK ks xs k = some y ∧ Q y M2
theorem dget_of {O : Own} {H M} {p : Addr} {ks : List Str} {xs : List D} (g : Good O H M) (em : M p = some (.dic ks xs)) (k : Str) : (∀ y, getK ks xs k = some y → ∃ v, DGet H p (.str k) (some v) ∧ Rep O H M y v) ∧ ∃ r : Option V, DGet H p (.str k) r ∧ r.isSome = decide (k ∈ ks) := by
  obtain ⟨vs, e, l, rs⟩ := g.at_ p _ em
  have e : H p = some (.dK (kvsOf ks vs)) := e
  obtain ⟨a, b⟩ := getK_rep k (ks := ks) rs
  have hg : DGet H p (.str k) (getK ks vs k) := by
    have := DGet.k (k := (Sum.inr k : Key)) e
    rw [valV_getK] at this; exact this
  refine ⟨fun y hy => ?_, getK ks vs k, hg, ?_⟩
  · obtain ⟨v, hv, rv⟩ := a y hy
    rw [hv] at hg
    exact ⟨v, hg, rv⟩
  · rw [Bool.eq_iff_iff, decide_eq_true_iff]; exact getK_mem k l
theorem d_dget {k0 : Nat} (hr : Room k0 X.A) (ho : PD X (bs X CR E W) o wo) (hi : PD X (bs X CR E W) i wi) (hs : NoSl i := by intro _ _; rfl) : PD X (bs X CR E W) (.Subscript o i pos) (dDGet wo wi) := by
  refine (pe_dget (hu_of hr) ho hi hs).imp fun σ H Q h => ?_
  obtain ⟨P, δ, M, Qd, hS, g, x, w, k⟩ := h
  refine ⟨P, δ, M, _, hS, g, x, w, fun vo H1 ⟨d, M1, z1, g1, r1, q1⟩ => ⟨P, δ, M1, _, hS.mono z1, g1, x.trans z1, q1, fun vi H2 ⟨d2, M2, z2, g2, r2, p, ks, xs, j, y, eo, ei, em, hy, q⟩ => ?_⟩⟩
  subst eo; subst ei
  obtain ⟨v, hv, rv⟩ := (dget_of g2 em j).1 y hy
  rw [show vi = .str j from r2]
  exact ⟨p, v, r1, hv, k _ _ ⟨y, M2, z1.trans z2, g2, rv, q⟩⟩
def rInK (neg : Bool) : D2 := fun a b M Q => ∃ k p ks xs, a = .str k ∧ b = .ref p ∧ M p = some (.dic ks xs) ∧ Q (.bl (if neg then !decide (k ∈ ks) else decide (k ∈ ks))) M
theorem o_inK {k0 : Nat} (hr : Room k0 X.A) : OpR X (compareOp .In) (l2 X.K CR (rInK false)) := by
  intro pins s σ H x y v u Q I rx ry h
  obtain ⟨P, a, b, M, Qd, ra, rb, g, ⟨j, p, ks, xs, rfl, rfl, em, q⟩, kk⟩ := h
  obtain rfl : x = V.str j := ra
  obtain rfl : y = V.ref p := rb
  obtain rfl : u = Value.ref p := ry
  obtain ⟨r, hg, hs⟩ := (dget_of g em j).2
  refine d_in (hu_of hr) I hg rx fun s' I' => ?_
  rw [hs]
  exact ⟨.bl _, H, I', rfl, kk _ _ (lf_bl g q)⟩
theorem o_notInK {k0 : Nat} (hr : Room k0 X.A) : OpR X (compareOp .NotIn) (l2 X.K CR (rInK true)) := by
  intro pins s σ H x y v u Q I rx ry h
  obtain ⟨P, a, b, M, Qd, ra, rb, g, ⟨j, p, ks, xs, rfl, rfl, em, q⟩, kk⟩ := h
  obtain rfl : x = V.str j := ra
  obtain rfl : y = V.ref p := rb
  obtain rfl : u = Value.ref p := ry
  obtain ⟨r, hg, hs⟩ := (dget_of g em j).2
  refine d_notIn (hu_of hr) I hg rx fun s' I' => ?_
  rw [hs]
  exact ⟨.bl _, H, I', rfl, kk _ _ (lf_bl g q)⟩
/-- d[k] = v -/
def putD (ks : List Str) (xs : List D) (k : Str) (y : D) : MO := if k ∈ ks then .dic ks (setK ks xs k y) else .dic (ks ++ [k]) (xs ++ [y])
def dDPut (wo wi wv : DE) : DSt := fun D δ M => wv δ M fun y M1 => wo δ M1 fun o M2 => wi δ M2 fun j M3 => ∃ p ks xs k, o = .ref p ∧ j = .str k ∧ M3 p = some (.dic ks xs) ∧ ks.length < sizeLine ∧ D.nx δ (mput M3 p (putD ks xs k y))
theorem s_dput {k0 : Nat} (hr : Room k0 X.A) (ho : PD X (bs X CR E W) o wo) (hi : PD X (bs X CR E W) i wi) (hv : PD X (bs X CR E W) value wv) (hs : swapsWith value (some (.Subscript o i pos')) pos.line X.env = pure false := by rfl) : PDS X (bs X CR E W) (.Assign [.Subscript o i pos'] value pos) (dDPut wo wi wv) := by
  refine (ps_dput (hu_of hr) ho hi hv hs).imp fun Dn σ H h => ?_
  obtain ⟨P, δ, M, Dd, hS, g, x, w, k⟩ := h
  refine ⟨P, δ, M, _, hS, g, x, w, fun vy H1 ⟨y, M1, z1, g1, ry, q1⟩ => ⟨P, δ, M1, _, hS.mono z1, g1, x.trans z1, q1, fun vo H2 ⟨d2, M2, z2, g2, r2, q2⟩ => ⟨P, δ, M2, _, (hS.mono z1).mono z2, g2, (x.trans z1).trans z2, q2, fun vi H3 ⟨d3, M3, z3, g3, r3, p, ks, xs, j, eo, ei, em, hl, q⟩ => ?_⟩⟩⟩
  subst eo; subst ei
  obtain ⟨vs, e, l, rs⟩ := g3.at_ p _ em
  have e : H3 p = some (.dK (kvsOf ks vs)) := e
  rw [show vi = .str j from r3]
  have lk : (kvsOf ks vs).length = ks.length := by show ((ks.map Sum.inr).zip vs).length = _; rw [List.length_zip, List.length_map]; omega
  have hp := DPut.k (k := (Sum.inr j : Key)) (v := vy) e (by rw [lk]; exact hl)
  have ry3 := (ry.mono z2).mono z3
  refine ⟨p, _, (show vo = .ref p from r2), hp, ?_⟩
  have zz := (z1.trans z2).trans z3
  unfold putD at q
  by_cases hm : j ∈ ks
  · rw [if_pos hm] at q
    rw [putK_old j vy l hm]
    have z4 : Fz ⟨X.K, CR, P⟩ H3 M3 (upd H3 p (.dK (kvsOf ks (setK ks vs j vy)))) (mput M3 p (.dic ks (setK ks xs j y))) := fz_put g3 em
    exact k.nx σ _ ⟨δ, _, zz.trans z4, good_put g3 (g3.noP em) z4 ⟨_, upd_same, by rw [setK_len j vy l]; exact l, (reps_setK ry3 rs).mono z4⟩, (hS.mono zz).mono z4, q⟩
  · rw [if_neg hm] at q
    rw [putK_app j vy l hm]
    have z4 : Fz ⟨X.K, CR, P⟩ H3 M3 (upd H3 p (.dK (kvsOf (ks ++ [j]) (vs ++ [vy])))) (mput M3 p (.dic (ks ++ [j]) (xs ++ [y]))) := fz_put g3 em
    exact k.nx σ _ ⟨δ, _, zz.trans z4, good_put g3 (g3.noP em) z4 ⟨_, upd_same, by rw [List.length_append, List.length_append, l]; rfl, (rs.append (Reps.one ry3)).mono z4⟩, (hS.mono zz).mono z4, q⟩
/-- del d[k] -/
def dDDel (wo wi : DE) : DSt := fun D δ M => wo δ M fun o M1 => wi δ M1 fun j M2 => ∃ p ks xs k, o = .ref p ∧ j = .str k ∧ M2 p = some (.dic ks xs) ∧ k ∈ ks ∧ D.nx δ (mput M2 p (.dic (delK ks ks k) (delK ks xs k)))
theorem s_ddel (ho : PD X (bs X CR E W) o wo) (hi : PD X (bs X CR E W) i wi) : PDS X (bs X CR E W) (.Delete [.Subscript o i pos'] pos) (dDDel wo wi) := by
  refine (ps_ddel ho hi).imp fun Dn σ H h => ?_
  obtain ⟨P, δ, M, Dd, hS, g, x, w, k⟩ := h
  refine ⟨P, δ, M, _, hS, g, x, w, fun vo H1 ⟨d, M1, z1, g1, r1, q1⟩ => ⟨P, δ, M1, _, hS.mono z1, g1, x.trans z1, q1, fun vi H2 ⟨d2, M2, z2, g2, r2, p, ks, xs, j, eo, ei, em, hm, q⟩ => ?_⟩⟩
  subst eo; subst ei
  obtain ⟨vs, e, l, rs⟩ := g2.at_ p _ em
  have e : H2 p = some (.dK (kvsOf ks vs)) := e
  refine ⟨p, _, (Sum.inr j : Key), (show vo = .ref p from r1), e, (show vi = .str j from r2), by rw [valV_getK]; exact (getK_mem j l).mpr hm, ?_⟩
  obtain ⟨d1, d2⟩ := dropK_kvs j l
  rw [d1]
  have z4 : Fz ⟨X.K, CR, P⟩ H2 M2 (upd H2 p (.dK (kvsOf (delK ks ks j) (delK ks vs j)))) (mput M2 p (.dic (delK ks ks j) (delK ks xs j))) := fz_put g2 em
  exact k.nx σ _ ⟨δ, _, (z1.trans z2).trans z4, good_put g2 (g2.noP em) z4 ⟨_, upd_same, d2, (reps_delK rs).mono z4⟩, ((hS.mono z1).mono z2).mono z4, q⟩
/-- len(d), dict(d) -/
def rLenK : DC := fun ds M Q => ∃ p ks xs, ds = [.ref p] ∧ M p = some (.dic ks xs) ∧ Q (.int (ks.length : Int)) M
theorem c_lenK : CallR X (.builtin "len") (lC X.K CR rLenK) := call_lenD.imp fun xs H Q hh => by
  obtain ⟨P, ds, M, Qd, rs, gd, ⟨p, ks, ys, rfl, em, q⟩, k⟩ := hh
  obtain ⟨v, r, rfl, r1, r2⟩ := rs
  obtain ⟨vs, e, l, rs⟩ := gd.at_ p _ em
  rw [show r = [] from r2, show v = .ref p from r1]
  refine ⟨p, _, rfl, e, ?_⟩
  have lk : ((ks.map (Sum.inr : Str → Key)).zip vs).length = ks.length := by rw [List.length_zip, List.length_map]; omega
  rw [lk]
  exact k _ _ (lf_int gd q)
def rDictK : DC := fun ds M Q => ∃ p ks xs, ds = [.ref p] ∧ M p = some (.dic ks xs) ∧ ∀ a, M a = none → Q (.ref a) (mput M a (.dic ks xs))
theorem c_dictK : CallR X (.type "dict") (lC X.K CR rDictK) := call_dictD.imp fun xs H Q hh => by
  obtain ⟨P, ds, M, Qd, rs, gd, ⟨p, ks, ys, rfl, em, q⟩, k⟩ := hh
  obtain ⟨v, r, rfl, r1, r2⟩ := rs
  obtain ⟨vs, e, l, rs⟩ := gd.at_ p _ em
  rw [show r = [] from r2, show v = .ref p from r1]
  exact ⟨p, _, rfl, .inl e, fun a ha => k _ _ (newM (mo := .dic ks ys) gd ha (fun H' M' z e' => ⟨vs, e', l, rs.mono z⟩) (q a (gd.none ha).1))⟩
/-- del xs[i] -/
def dDelL (wo wi : DE) : DSt := fun D δ M => wo δ M fun o M1 => wi δ M1 fun j M2 => ∃ p xs n, o = .ref p ∧ j = .int ((n : Nat) : Int) ∧ M2 p = some (.lst xs) ∧ n < xs.length ∧ n < 1000000 ∧ D.nx δ (mput M2 p (.lst (xs.eraseIdx n)))
theorem s_delL (ho : PD X (bs X CR E W) o wo) (hi : PD X (bs X CR E W) i wi) : PDS X (bs X CR E W) (.Delete [.Subscript o i pos'] pos) (dDelL wo wi) := by
  refine (ps_delL ho hi).imp fun Dn σ H h => ?_
  obtain ⟨P, δ, M, Dd, hS, g, x, w, k⟩ := h
  refine ⟨P, δ, M, _, hS, g, x, w, fun vo H1 ⟨d, M1, z1, g1, r1, q1⟩ => ⟨P, δ, M1, _, hS.mono z1, g1, x.trans z1, q1, fun vi H2 ⟨d2, M2, z2, g2, r2, p, xs, n, eo, ei, em, hn, hb, q⟩ => ?_⟩⟩
  subst eo; subst ei
  obtain ⟨vs, e, rs⟩ := g2.at_ p _ em
  have hl : n < vs.length := by rw [← rs.length]; exact hn
  have hs : seqIndex? (n : Int) vs.length = some n := by
    have := PyProof.Rows.seqIndex_at (i := (n : Int)) (n := vs.length) (by omega) (by omega)
    rw [this, Int.toNat_natCast]
  have z4 : Fz ⟨X.K, CR, P⟩ H2 M2 (upd H2 p (.lst (vs.eraseIdx n))) (mput M2 p (.lst (xs.eraseIdx n))) := fz_put g2 em
  exact ⟨p, vs, (n : Int), n, (show vo = .ref p from r1), r2, e, by omega, by omega, hs, k.nx σ _ ⟨δ, _, (z1.trans z2).trans z4, good_put g2 (g2.noP em) z4 (show RepO _ _ _ p (.lst _) from ⟨_, upd_same, (reps_erase n rs).mono z4⟩), ((hS.mono z1).mono z2).mono z4, q⟩⟩
/-! ### order of texts -/
def rLtS : D2 := fun a b M Q => ∃ x y, a = .str x ∧ b = .str y ∧ Q (.bl (decide (x.cps.toList < y.cps.toList))) M
theorem o_ltS : OpR X (compareOp .Lt) (l2 X.K CR rLtS) := op_lt_str.imp fun x y H Q hh => by
  obtain ⟨P, a, b, M, Qd, ra, rb, gd, ⟨c, z, rfl, rfl, q⟩, k⟩ := hh
  exact ⟨c, z, ra, rb, k _ _ (lf_bl gd q)⟩
def rLeS : D2 := fun a b M Q => ∃ x y, a = .str x ∧ b = .str y ∧ Q (.bl (!decide (y.cps.toList < x.cps.toList))) M
theorem o_leS : OpR X (compareOp .LtE) (l2 X.K CR rLeS) := op_le_str.imp fun x y H Q hh => by
  obtain ⟨P, a, b, M, Qd, ra, rb, gd, ⟨c, z, rfl, rfl, q⟩, k⟩ := hh
  exact ⟨c, z, ra, rb, k _ _ (lf_bl gd q)⟩
/-! ### != of lists, one of them of the memory -/
def valM (d : D) (M : Mem) : D := match d with
  | .ref p => match M p with
    | some (.lst xs) => .lst xs
    | _ => .ref p
  | d => d
theorem dp_valM {O : Own} {H M} {d : D} {v : V} {n : Nat} (g : Good O H M) (h : plD (valM d M) n = true) (r : Rep O H M d v) : Dp O.K H v (datD (valM d M)) := by
  unfold valM at h ⊢
  split at h
  · rename_i p
    split at h
    · rename_i xs em
      obtain ⟨vs, e, rs⟩ := g.at_ p _ em
      rw [show v = .ref p from r]
      cases n with
      | zero => cases h
      | succ n => exact .lst (.of e) (dps_of (n := n) h rs)
    · cases n <;> cases h
  · exact dp_of h r
def rNeM : D2 := fun a b M Q => plD (valM a M) 8 = true ∧ plD (valM b M) 8 = true ∧ ∀ k : Bool, (k = true ↔ valM a M ≠ valM b M) → Q (.bl k) M
theorem o_neM (hu : X.A.units + 64 < cLine) : OpR X (compareOp .NotEq) (l2 X.K CR rNeM) := (op_neD hu).imp fun x y H Q hh => by
  obtain ⟨P, a, b, M, Qd, ra, rb, gd, ⟨p1, p2, q⟩, k⟩ := hh
  refine ⟨_, _, dp_valM gd p1 ra, dp_valM gd p2 rb, shaped_of p1, shaped_of p2, k _ _ (lf_bl gd (q _ ?_))⟩
  have := eqv_iff p1 p2
  rw [Bool.not_eq_true', ← Bool.not_eq_true, this]
end
/-! ### list.remove of a text -/
def ansS : Ans := fun a b => match a, b with
  | .str x, .str y => some (decide (x = y))
  | _, _ => none
theorem eqOk_str {X : Cx} {CR : Addr} {k : Nat} : EqOk X CR k ansS := fun A pins s σ H P M a b x y u v r sb I ru rv g ra rb h => by
  unfold ansS at h
  split at h
  · rename_i z z'
    cases h
    rw [show x = .str z from ra] at ru
    rw [show y = .str z' from rb] at rv
    obtain ⟨t, rfl⟩ := ru
    obtain ⟨t', rfl⟩ := rv
    exact wpAny_eqBool_str ⟨rfl, H, I, Fz.refl, g⟩
  · cases h
/-! ### t[::-1] -/
section
variable {prog : Program} {w : World} {A : Around} {E : Value → Shared → Prop} {s : Shared}
theorem adjust_rev (n : Nat) : Builtin.Slice.sliceAdjust none none (-1) (n : Int) = ((n : Int) - 1, -1) := rfl
theorem places_rev (n : Nat) : Builtin.Slice.slicePlaces ((n : Int) - 1) (-1) (-1) = n := by
  unfold Builtin.Slice.slicePlaces
  rw [if_neg (by decide)]
  by_cases h : n = 0
  · subst h; rfl
  · rw [if_pos (by omega)]
    have : ((n : Int) - 1 - -1 - 1) / - -1 + 1 = n := by
      show ((n : Int) - 1 - -1 - 1) / 1 + 1 = n
      rw [Int.ediv_one]; omega
    rw [this]; exact Int.toNat_natCast n
theorem sliceApplied_rev {sl : Addr} {t : Tok} {n : Nat} {Q : Int × Int × Nat → Shared → Prop} (hs : s.heap.IsSliceOf sl .none .none (.int (-1) t)) (h : Q ((n : Int) - 1, -1, n) s) : wpAny (model prog w) A (Builtin.Slice.sliceApplied (.ref sl) (pure (n : Int))) Q E s := by
  obtain ⟨os, hos, hcs, hds⟩ := id hs
  unfold Builtin.Slice.sliceApplied Builtin.Slice.sliceFields
  refine wpAny_bind (wpAny_bind (wpAny_field hos hds (x := .none) rfl (wpAny_bind (wpAny_field hos hds (x := .none) rfl (wpAny_bind (wpAny_field hos hds (x := .int (-1) t) rfl (wpAny_pure ?_)))))))
  refine wpAny_bind (PyProof.Rows.slicePart_int ?_)
  show wpAny _ _ (if ((-1 : Int) == 0) = true then _ else _) _ _ s
  rw [if_neg (by decide)]
  refine wpAny_bind (PyProof.Rows.slicePart_none (wpAny_bind (PyProof.Rows.slicePart_none (wpAny_bind (wpAny_pure ?_)))))
  show wpAny _ _ (match Builtin.Slice.sliceAdjust none none (-1) (n : Int) with | (lo, hi) => pure (lo, (-1 : Int), Builtin.Slice.slicePlaces lo hi (-1))) _ _ s
  rw [adjust_rev]
  show wpAny _ _ (pure ((n : Int) - 1, (-1 : Int), Builtin.Slice.slicePlaces ((n : Int) - 1) (-1) (-1))) _ _ s
  rw [places_rev]
  exact wpAny_pure h
theorem fm_congr {α β : Type} {f g : α → Option β} : ∀ {l : List α}, (∀ x, x ∈ l → f x = g x) → l.filterMap f = l.filterMap g
  | [], _ => rfl
  | x :: l, h => by
    rw [List.filterMap_cons, List.filterMap_cons, h x List.mem_cons_self, fm_congr fun y hy => h y (List.mem_cons_of_mem _ hy)]
theorem pick_rev (xs : Array Value) : ((List.range xs.size).filterMap fun (m : Nat) => xs[((xs.size : Int) - 1 + (m : Int) * -1).toNat]?).toArray = xs.toList.reverse.toArray := by
  have := HT.pick_gen xs.toList.reverse.toArray 0 xs.size
  rw [show (((xs.toList.reverse.toArray).toList.drop 0).take xs.size) = xs.toList.reverse from List.take_of_length_le (by simp)] at this
  rw [← this]
  congr 1
  refine fm_congr fun m hm => ?_
  have hm := List.mem_range.mp hm
  have e1 : ((xs.size : Int) - 1 + (m : Int) * -1).toNat = xs.size - 1 - m := by omega
  have e2 : (((0 : Nat) : Int) + (m : Int) * 1).toNat = m := by omega
  rw [e1, e2]
  have hv : xs.toList.length - 1 - m < xs.toList.length := by rw [Array.length_toList]; omega
  have h1 : xs[xs.size - 1 - m]? = some (xs.toList[xs.toList.length - 1 - m]'hv) := by
    rw [Array.getElem?_eq_getElem (by omega)]; simp
  have h2 : (xs.toList.reverse.toArray)[m]? = some (xs.toList[xs.toList.length - 1 - m]'hv) := by
    rw [Array.getElem?_eq_getElem (by simpa using hm)]; simp [List.getElem_reverse]
  rw [h1, h2]
theorem getItem_tuple_rev {t sl : Addr} {items : Array Value} {tk : Tok} {Q : Value → Shared → Prop} (ht : IsTup s.heap t items) (hs : s.heap.IsSliceOf sl .none .none (.int (-1) tk))
    (h : Q (.ref s.heap.objs.size) { s with heap := s.heap.push { cls := .type "tuple", data := .seq items.toList.reverse.toArray } }) (hsz : items.size ≤ sizeLine) : wpAny (model prog w) A (getItem (.ref t) (.ref sl)) Q E s := by
  have htake : sizeOk (.seq items.toList.reverse.toArray) := by
    show items.toList.reverse.toArray.size ≤ sizeLine
    rw [List.size_toArray, List.length_reverse, Array.length_toList]; exact hsz
  obtain ⟨os, hos, hcs, hds⟩ := id hs
  have hTs : s.TypeIs (.ref sl) "slice" := ⟨os, hos, hcs⟩
  unfold getItem
  try with_reducible refine wpAny_holding ?_
  first | refine wpAny_bind (wpAny_pure ?_) | skip
  refine wpAny_bind (wpAny_sequenceKey ht.typeIs (by decide) ?_)
  refine wpAny_bind (wpAny_callSpecial?_slot (name := Str.ofString "__getitem__") ht.typeIs PyProof.Rows.slot_tuple_getitem
    (wpAny_call_entry PyProof.Rows.slot_tuple_getitem ht.typeIs entry_tuple_getitem ?_ (args_tuple_getitem _ _)))
  show wpAny _ _ (Builtin.Tuple.tupleItemsOf (.ref t) >>= _) _ _ s
  refine wpAny_bind (tupleItemsOf_ ht ?_)
  refine wpAny_bind (wpAny_typeOf hTs ?_)
  rw [if_pos (by decide)]
  refine wpAny_bind (sliceApplied_rev hs ?_)
  have hno : ¬ ((((items.size : Int) - 1) == 0 && (-1 : Int) == 1 && items.size == items.size) = true) := by
    intro q
    rw [Bool.and_eq_true, Bool.and_eq_true] at q
    exact absurd q.1.2 (by decide)
  show wpAny _ _ (if (((items.size : Int) - 1) == 0 && (-1 : Int) == 1 && items.size == items.size) = true then _ else _) _ _ s
  rw [if_neg hno, pick_rev]
  first
    | exact wpAny_bind (m := Builtin.Tuple.tupleExact _) (wpAny_newObj_type (wpAny_pure ⟨_, rfl, wpAny_pure h⟩) htake)
    | exact wpAny_bind (m := Builtin.Tuple.tupleExact _) (wpAny_newObj_type (wpAny_bind (wpAny_pure (wpAny_pure ⟨_, rfl, wpAny_pure h⟩))) htake)
    | exact wpAny_bind (wpAny_bind (m := Builtin.Tuple.tupleExact _) (wpAny_newObj_type (wpAny_pure (wpAny_pure ⟨_, rfl, wpAny_pure h⟩)) htake))
    | exact wpAny_bind (wpAny_bind (m := Builtin.Tuple.tupleExact _) (wpAny_newObj_type (wpAny_pure ⟨_, rfl, wpAny_pure h⟩) htake))
end
section
variable {X : Cx} {CR : Addr} {E : DXS} {W : WX} {pos p2 : Pos} {e st : Expr} {w ws : DE}
def dRev (w ws : DE) : DE := fun δ M Q => w δ M fun d M1 => ws δ M1 fun k M2 => k = .int (-1) ∧ ∃ xs, d = .tup xs ∧ Q (.tup xs.reverse) M2
theorem reps_rev {O : Own} {H M} : ∀ {ds : List D} {vs : List V}, Reps O H M ds vs → Reps O H M ds.reverse vs.reverse
  | [], vs, h => by rw [show vs = [] from h]; exact rfl
  | d :: ds, vs, h => by
    obtain ⟨v, us, rfl, r1, r2⟩ := h
    rw [List.reverse_cons, List.reverse_cons]
    exact (reps_rev r2).append (Reps.one r1)
theorem d_rev (he : PD X (bs X CR E W) e w) (hst : PD X (bs X CR E W) st ws) : PD X (bs X CR E W) (.Subscript e (.Slice none none (some st) p2) pos) (dRev w ws) := by
  refine ⟨fun pins s σ H Q I h => ?_⟩
  obtain ⟨P, δ, M, Qd, hS, g, x, w, k⟩ := h
  refine Subscript_ (thn (he.run pins s σ H (fun v H' => LfV ⟨X.K, CR, P⟩ H M _ v H') I ⟨P, δ, M, _, hS, g, x, w, fun _ _ l => l⟩) fun u s1 ⟨y, H1, I1, ry, d, M1, z1, g1, r1, q1⟩ => ?_)
  refine wpAny_Slice (wpAny_pure (wpAny_pure (thn (hst.run pins s1 σ H1 (fun v H' => LfV ⟨X.K, CR, P⟩ H1 M1 _ v H') I1 ⟨P, δ, M1, _, hS.mono z1, g1, x.trans z1, q1, fun _ _ l => l⟩) fun u2 s2 ⟨y2, H2, I2, ry2, d2, M2, z2, g2, r2, ek, xs, ed, q2⟩ => ?_)))
  subst ek; subst ed
  have r1' := r1.mono z2
  obtain ⟨a, vs, ey, f, rs⟩ := r1'
  subst ey
  obtain rfl : u = Value.ref a := ry
  obtain ⟨tk, rfl⟩ : ∃ tk, u2 = Value.int (-1) tk := by
    rw [show y2 = .int (-1) from r2] at ry2
    exact ry2
  have I4 : Inv X pins σ H2 { s2 with heap := s2.heap.push { cls := .type "slice", data := .fields #[.none, .none, .int (-1) tk] } } := I2.kept (t' := s2.toks) fun b ob q => Heap.get?_push_of_some _ q
  obtain ⟨its, r, ht, hz⟩ := I4.tuple f.sq
  have hlen : its.toArray.size = vs.length := by rw [List.size_toArray]; exact r.length.symm
  show wpAny (model X.prog X.w) X.A (subscriptTail e (.Slice none none (some st) p2) (.ref a) (.ref s2.heap.objs.size)) (EP X pins σ Q) X.xe { s2 with heap := s2.heap.push { cls := .type "slice", data := .fields #[.none, .none, .int (-1) tk] } }
  refine tail_any (ops := [.ref a, .ref s2.heap.objs.size]) ht.typeIs PyProof.Rows.slot_tuple_getitem.lookup (getItem_tuple_rev ht (Heap.IsSliceOf.new ..) ?_ (by rw [hlen]; exact hz)) (by with_unfolding_all rfl)
  have hn := I4.hok.fresh (Nat.le_refl _)
  refine ⟨.ref _, _, I4.laid (t' := s2.toks) (o := .frz { cls := .type "tuple", data := .seq its.reverse.toArray } (.tup vs.reverse)) (fun b ob q => Heap.get?_push_of_some _ q) (Nat.le_refl _) ?_, rfl, k _ _ ((newT (o := { cls := .type "tuple", data := .seq its.reverse.toArray }) g2 hn rfl (reps_rev rs) q2).trans (z1.trans z2))⟩
  have rv : Vals vs.reverse its.reverse := r.reverse
  refine ⟨Heap.get?_push_size _ rfl, by rw [List.length_reverse]; exact hz, _, rv, ?_⟩
  exact IsTup.new _ _
end
/-! ### a def's call that may raise -/
section
variable {X : Cx} {CR : Addr} {E : DXS} {W : WX} {pos p : Pos} {k : Nat} {x : Str} {ps : List Str} {sp : DSp} {e : Expr} {es : List Expr} {t : DA}
theorem d_callX (F : Def X.prog X.w X.K X.mg X.base CR k x ps sp) (tk : Takes X W) (hr : Room k X.A) (ha : PDA X (bs X CR E W) (e :: es) t) (hg : Gl X x := by rfl)
    (hdb : (x == ("__debug__" : Str)) = false := by decide) (he : starEach (e :: es) X.env = (false, eval e X.env) :: starEach es X.env := by rfl) (hpl : (backTo pos (starEach es X.env)).any (·.1) = false := by rfl) : PD X (bs X CR E W) (.Call (.Name x p) (e :: es) [] pos) (dCallX sp E t) := by
  obtain ⟨f, fd, F, hm, hk, hb⟩ := F.ex
  refine ⟨fun pins s σ H Q I h => ?_⟩
  obtain ⟨P, δ, M, Qd, hS, g, xl, w, kk⟩ := h
  refine wpAny_Call_Name_kw (ld_glob I hg hm ?_ hdb)
  refine PySem.W.callWith_K (first := []) (h₀ := X.base) I.ok.mod.kin hk (thn (ha.run pos pins _ σ H (fun vs H2 => ∃ ds M2, Fz ⟨X.K, CR, P⟩ H M H2 M2 ∧ Good ⟨X.K, CR, P⟩ H2 M2 ∧ Reps ⟨X.K, CR, P⟩ H2 M2 ds vs ∧ sp ds M2 Qd fun C ns fs M' => E C ns fs δ M') I ⟨P, δ, M, _, hS, g, xl, w, fun vs H2 ds M2 z2 g2 rs q2 => ⟨ds, M2, z2, g2, rs, q2⟩⟩) fun us s2 ⟨vs, H2, I2, r, ds, M2, z2, g2, rs, q2⟩ => ⟨I2.kIn, ?_⟩) he hpl
  refine run_fnS (E := fun σ c d H' => W c d σ H') (us := us) (vs := vs) F hr hb (passAt tk σ) I2 r ?_
  exact ⟨P, ds, M2, Qd, _, rs, g2, q2, fun v H' l => kk v H' (l.trans z2), lfx_w (hS.mono z2) (xl.trans z2)⟩
/-- x not in [..] of plain data -/
def rNotInP : D2 := fun a b M Q => ∃ ds : List D, b = .lst ds ∧ plD a 8 = true ∧ plD b 8 = true ∧ ∀ k : Bool, (k = true ↔ a ∉ ds) → Q (.bl k) M
theorem o_notInP (hu : X.A.units + 65 < cLine) : OpR X (compareOp .NotIn) (l2 X.K CR rNotInP) := (op_notInD hu).imp fun x y H Q hh => by
  obtain ⟨P, a, b, M, Qd, ra, rb, gd, ⟨ds, rfl, pa, pb, q⟩, k⟩ := hh
  refine ⟨_, _, dp_of pa ra, dp_of pb rb, shaped_of pa, shaped_of pb, k _ _ (lf_bl gd (q _ ?_))⟩
  have := any_eqv (n := 7) (ds := ds) pa pb
  rw [Bool.not_eq_true', ← Bool.not_eq_true, this]
end
/-! ### the addresses of a survey's classes -/
structure Ad where
  bk : Addr
  rd : Addr
  dup : Addr
  badr : Addr
  up : Addr
  ur : Addr
  lim : Addr
  nt : Addr
/-! ### the errors are not one another's -/
def Ad.errs (AD : Ad) : List Addr := [AD.dup, AD.badr, AD.up, AD.ur, AD.lim]
structure ApT (K : PySem.W.Frag) (AD : Ad) : Prop where
  ap : ∀ c c', c ∈ AD.errs → c' ∈ AD.errs → PySem.W.exmOne K (.ref c) (.ref c') = some (decide (c = c'))
  nd : AD.errs.Nodup
theorem ApT.apart {K : PySem.W.Frag} {AD : Ad} {hs : List Hd} (h : ApT K AD) (e : hs.map Hd.C = AD.errs) : Apart K hs := fun a b ha hb => h.ap _ _ (by rw [← e]; exact List.mem_map_of_mem ha) (by rw [← e]; exact List.mem_map_of_mem hb)
theorem one_of {f : Hd → Str} : ∀ {hs : List Hd}, (hs.map Hd.C).Nodup → ∀ h h', h ∈ hs → h' ∈ hs → h.C = h'.C → f h = f h'
  | [], _, _, _, m, _, _ => nomatch m
  | x :: hs, n, a, b, ma, mb, e => by
    obtain ⟨n1, n2⟩ := List.nodup_cons.mp n
    rcases List.mem_cons.mp ma with ea | ma
    · rcases List.mem_cons.mp mb with eb | mb
      · rw [ea, eb]
      · exact absurd (by rw [← ea, e]; exact List.mem_map_of_mem mb) n1
    · rcases List.mem_cons.mp mb with eb | mb
      · exact absurd (by rw [← eb, ← e]; exact List.mem_map_of_mem ma) n1
      · exact one_of n2 a b ma mb e
def adOf (K : PySem.W.Frag) : Ad := ⟨He.ga K "Book", He.ga K "Reading", He.ga K "DuplicateName", He.ga K "BadReading", He.ga K "UnknownPoint", He.ga K "UnknownReading", He.ga K "LimitReached", He.ga K "Net"⟩
theorem nodup_map_of {α β : Type} {f : α → β} : ∀ {l : List α}, (∀ a b, a ∈ l → b ∈ l → f a = f b → a = b) → l.Nodup → (l.map f).Nodup
  | [], _, _ => List.nodup_nil
  | a :: l, h, n => by
    obtain ⟨n1, n2⟩ := List.nodup_cons.mp n
    refine List.nodup_cons.mpr ⟨fun m => ?_, nodup_map_of (fun x y hx hy => h x y (List.mem_cons_of_mem _ hx) (List.mem_cons_of_mem _ hy)) n2⟩
    obtain ⟨b, hb, e⟩ := List.mem_map.mp m
    exact n1 (by rw [← h b a (List.mem_cons_of_mem _ hb) List.mem_cons_self e]; exact hb)
theorem apB_ok {K : PySem.W.Frag} (h : apB K errNames = true) : ApT K (adOf K) := by
  have e0 : (adOf K).errs = errNames.map (He.ga K) := rfl
  have h1 : ∀ a b, a ∈ errNames → b ∈ errNames → PySem.W.exmOne K (.ref (He.ga K a)) (.ref (He.ga K b)) = some (decide (a = b)) := fun a b ha hb => of_decide_eq_true (List.all_eq_true.mp (List.all_eq_true.mp h a ha) b hb)
  have inj : ∀ a b, a ∈ errNames → b ∈ errNames → He.ga K a = He.ga K b → a = b := fun a b ha hb e => by
    have := h1 a b ha hb
    rw [e, h1 b b hb hb] at this
    exact of_decide_eq_true ((Option.some.inj this).symm.trans (decide_eq_true rfl))
  refine ⟨fun c c' hc hc' => ?_, ?_⟩
  · rw [e0] at hc hc'
    obtain ⟨a, ha, rfl⟩ := List.mem_map.mp hc
    obtain ⟨b, hb, rfl⟩ := List.mem_map.mp hc'
    rw [h1 a b ha hb]
    congr 1
    rw [Bool.eq_iff_iff, decide_eq_true_iff, decide_eq_true_iff]
    exact ⟨fun e => by rw [e], inj a b ha hb⟩
  · rw [e0]; exact nodup_map_of inj (by decide)
/-! ### makers -/
theorem mkC_of {P : Program} {w : World} {K : PySem.W.Frag} {mg : Str → Option Value} {base : Heap} {CR C f : Addr} {k : Nat} {fd : FuncData} {x qual cx : Str} {st : Stmt} {sp : DSp} {ps : List Str} (F : FunD K x qual (defArgs st) (defBody st) (defScope st) [] [] f fd) (g : mg cx = some (.ref C)) (m : Mk K C f) (ok : FnOk P w K mg base (L2.CX P w) k f fd ps (lSp K CR sp))
    (h : ∀ (kV doc pm : Value) (an : Option Addr) (cdv ct : Value) (us : List Value), us.length = ps.length → bindArgs (PySem.W.fnOf x qual (defArgs st) (defBody st) (defScope st) .none kV doc pm an cdv ct) ⟨us, []⟩ = pure (ps.zip us)) : MkC P w K mg base CR k cx C ps sp := ⟨g, f, fd, m, ok, F.bindsN h⟩
theorem methC_of {P : Program} {w : World} {K : PySem.W.Frag} {mg : Str → Option Value} {base : Heap} {CR C f : Addr} {k : Nat} {fd : FuncData} {x qual name : Str} {st : Stmt} {sp : DSp} {ps : List Str} (F : FunD K x qual (defArgs st) (defBody st) (defScope st) [] [] f fd) (c : Cls K C) (m : Meth K C name f) (ok : FnOk P w K mg base (L2.CX P w) k f fd ps (lSp K CR sp))
    (h : ∀ (kV doc pm : Value) (an : Option Addr) (cdv ct : Value) (us : List Value), us.length = ps.length → bindArgs (PySem.W.fnOf x qual (defArgs st) (defBody st) (defScope st) .none kV doc pm an cdv ct) ⟨us, []⟩ = pure (ps.zip us)) : MethC P w K mg base CR k C name ps sp := ⟨c, f, fd, ok, F.bindsN h, m⟩
/-! ### dict of a tuple of pairs; get; extend; sum; methods without arguments -/
def pairT (p : Str × D) : D := .tup [.str p.1, p.2]
theorem pairs_at {O : Own} {H M} : ∀ {t : List (Str × D)} {vs : List V}, Reps O H M (t.map pairT) vs → ∃ (as : List Addr) (ws : List V), vs = as.map V.ref ∧ Paired (fun p (kv : Key × V) => SqT O.K H p [kV kv.1, kv.2]) as (kvsOf (t.map Prod.fst) ws) ∧ Reps O H M (t.map Prod.snd) ws ∧ as.length = t.length ∧ ws.length = t.length
  | [], vs, r => ⟨[], [], r, .nil, rfl, rfl, rfl⟩
  | x :: t, vs, r => by
    obtain ⟨v, us, rfl, ⟨a, zs, rfl, f, z1, r1, rfl, e1, z2, r2, rfl, e2, e3⟩, h2⟩ := r
    rw [show r2 = [] from e3] at f
    rw [show z1 = .str x.1 from e1] at f
    obtain ⟨as, ws, rfl, p, rs, l1, l2⟩ := pairs_at h2
    exact ⟨a :: as, z2 :: ws, rfl, .cons f.sq p, ⟨z2, ws, rfl, e2, rs⟩, by rw [List.length_cons, List.length_cons, l1], by rw [List.length_cons, List.length_cons, l2]⟩
theorem prsV_at {X : Cx} {pins : List (Addr × Obj)} {σ : L2.St} {H : Hp} {s : Shared} (I : Inv X pins σ H s) : ∀ {ps : List Addr} {kvs : List (Key × V)}, Paired (fun p kv => SqT X.K H p [kV kv.1, kv.2]) ps kvs →
    ∃ (prs : List (Key × Value)) (us : List Value), KV kvs prs ∧ prs.length = ps.length ∧ us.length = ps.length ∧ ∀ (j : Nat) (b : Addr) (q : Key × Value) (u : Value), ps[j]? = some b → prs[j]? = some q → us[j]? = some u → IsTup s.heap b #[u, q.2] ∧ keyIs q.1 u = true
  | _, _, .nil => ⟨[], [], .nil, rfl, rfl, fun j b q u e => by simp at e⟩
  | _, _, .cons (a := p) (b := kv) h t => by
    obtain ⟨prs, us, r, hl, hl2, hp⟩ := prsV_at I t
    obtain ⟨its, rv, ht, _⟩ := I.tuple h
    obtain ⟨u, y, ei, ru, ry⟩ := vals2 rv
    subst ei
    refine ⟨(kv.1, y) :: prs, u :: us, .cons ⟨rfl, ry⟩ r, by rw [List.length_cons, List.length_cons, hl], by rw [List.length_cons, List.length_cons, hl2], fun j b q u' e1 e2 e3 => ?_⟩
    cases j with
    | zero =>
      cases e1; cases e2; cases e3
      exact ⟨ht, kV_is (P := X.prog) (w := X.w) ru⟩
    | succ j => exact hp j b q u' (by simpa using e1) (by simpa using e2) (by simpa using e3)
section
variable {X : Cx} {CR : Addr} {E : DXS} {W : WX} {pos cpos apos : Pos} {o e f : Expr} {w wo we wf : DE} {t : DA}
def rDictT : DC := fun ds M Q => ∃ t : List (Str × D), ds = [.tup (t.map pairT)] ∧ (t.map Prod.fst).Nodup ∧ ∀ a, M a = none → Q (.ref a) (mput M a (.dic (t.map Prod.fst) (t.map Prod.snd)))
theorem c_dictT (hc : X.calm = true) : CallR X (.type "dict") (lC X.K CR rDictT) := by
  intro pins s σ H xs us Q I r h
  obtain ⟨P, ds, M, Qd, rs, g, ⟨t, rfl, nd, q⟩, k⟩ := h
  obtain ⟨v, r', rfl, ⟨a, vs, rfl, f, rps⟩, e0⟩ := rs
  rw [show r' = [] from e0] at r
  obtain ⟨u, rfl, ru⟩ := vals1 r
  cases ru
  obtain ⟨fr, ob, to_, ea⟩ := f
  obtain ⟨hg, hz, its, rv, o', ho', hc', n, hd'⟩ := (show ObjOk X.prog X.w H s.heap a (.frz ob (.tup vs)) from I.hok a _ ea)
  rw [hg] at ho'; cases ho'
  obtain ⟨as, ws, rfl, pr, rws, l1, l2⟩ := pairs_at rps
  obtain ⟨prs, uus, kv, hl, hl2, hp⟩ := prsV_at I pr
  have ei := refs_at rv
  subst ei
  have pl : PySem.PlainSeq "tuple" s.heap a (as.map Value.ref).toArray := ⟨ob, n, hg, hc', to_, hd'⟩
  let pps : List (Value × Value) := uus.zip (prs.map (·.2))
  have hlen : pps.length = as.length := by show (uus.zip (prs.map (·.2))).length = _; rw [List.length_zip, List.length_map]; omega
  have at_ : ∀ (j : Nat) k v, pps[j]? = some (k, v) → ∃ b q, as[j]? = some b ∧ prs[j]? = some q ∧ q.2 = v ∧ IsTup s.heap b #[k, v] ∧ keyIs q.1 k = true := fun j k v e => by
    have hj : j < pps.length := (List.getElem?_eq_some_iff.mp e).1
    have hb : as[j]? = some as[j] := List.getElem?_eq_getElem (by omega)
    have hq : prs[j]? = some prs[j] := List.getElem?_eq_getElem (by omega)
    have e' : (uus.zip (prs.map (·.2)))[j]? = some (k, v) := e
    rw [List.getElem?_zip_eq_some] at e'
    obtain ⟨e1, e2⟩ := e'
    rw [List.getElem?_map, hq] at e2
    have e2 : prs[j].2 = v := Option.some.inj e2
    obtain ⟨z1, z2⟩ := hp j _ _ _ hb hq e1
    rw [e2] at z1
    exact ⟨_, _, hb, hq, e2, z1, z2⟩
  have okI : PySem.PairItems s.heap (as.map Value.ref).toArray (fun j => as[j]?.getD 0) pps := by
    refine ⟨by rw [List.size_toArray, List.length_map, hlen], fun j k v e => ?_⟩
    obtain ⟨b, q', hb, _, _, z1, _⟩ := at_ j k v e
    have eb : as[j]?.getD 0 = b := by rw [hb]; rfl
    refine ⟨?_, .inl ?_⟩
    · rw [List.getElem?_toArray, List.getElem?_map, hb]
      show some (Value.ref b) = some (Value.ref (as[j]?.getD 0))
      rw [eb]
    · show s.heap.IsTuple (as[j]?.getD 0) #[k, v]
      rw [eb]; exact z1
  refine PySem.call_dict_pairs (knd := mixKind X.prog X.w) (kvs := prs) (PySem.PairArg.tuple (prog := X.prog) (w := X.w) a _ (fun j => as[j]?.getD 0) pps) (I.ok.hd hc) ⟨pl, okI⟩ ⟨by rw [hlen, hl], fun i key v e => ?_⟩ (by rw [hlen, l1]; have := rps.length; rw [List.length_map] at this hz; omega) fun h' tk hd2 kp => ?_
  · obtain ⟨b, q', _, hq, e2, _, z2⟩ := at_ i key v e
    exact ⟨q'.1, by rw [hq, ← e2], z2⟩
  · have hm : (s.heap.objs.size == sysModules) = false := beq_eq_false_iff_ne.mpr (Nat.ne_of_gt I.big)
    have lk : (t.map Prod.fst).length = ws.length := by rw [List.length_map, l2]
    have em : mergeK [] (kvsOf (t.map Prod.fst) ws) = kvsOf (t.map Prod.fst) ws := by rw [mergeK_of _ _ [] lk nd (fun k _ => rfl), List.nil_append]
    have hlk : (kvsOf (t.map Prod.fst) ws).length ≤ sizeLine := by
      show (((t.map Prod.fst).map Sum.inr).zip ws).length ≤ _
      rw [List.length_zip, List.length_map, List.length_map]
      rw [List.length_map] at hz
      omega
    have hf := I.hok.fresh (Nat.le_refl s.heap.objs.size)
    refine ⟨.ref s.heap.objs.size, upd H s.heap.objs.size (.dK (kvsOf (t.map Prod.fst) ws)), I.laid (t' := tk) (fun b o e => kp b o (by simp) e) (Nat.le_refl _) (show ObjOk X.prog X.w _ _ _ (.dK (kvsOf (t.map Prod.fst) ws)) from ⟨hlk, hm, merged [] prs, by rw [← em]; exact KV.merge kv .nil, hd2⟩), rfl, k _ _ (newM (mo := .dic _ _) g hf (fun H' M' z e' => ⟨ws, e', lk, rws.mono z⟩) (q _ (g.none hf).1))⟩
/-- d.get(k, z) -/
def dDGet2 (wo we wf : DE) : DE := fun δ M Q => wo δ M fun d M1 => (∃ p ks xs, d = .ref p ∧ M1 p = some (.dic ks xs)) ∧ we δ M1 fun k M2 => wf δ M2 fun z M3 => ∃ p ks xs j, d = .ref p ∧ k = .str j ∧ M3 p = some (.dic ks xs) ∧ Q ((getK ks xs j).getD z) M3
theorem d_dget2 {k0 : Nat} (hr : Room k0 X.A) (ho : PD X (bs X CR E W) o wo) (he : PD X (bs X CR E W) e we) (hf : PD X (bs X CR E W) f wf) (m : M2 X o "get" apos e f cpos := by exact ⟨rfl, rfl, rfl, rfl⟩) : PD X (bs X CR E W) (.Call (.Attribute o "get" apos) [e, f] [] cpos) (dDGet2 wo we wf) := by
  refine (pe_dget2 (hu_of hr) ho he hf m).imp fun σ H Q h => ?_
  obtain ⟨P, δ, M, Qd, hS, g, x, w, k⟩ := h
  refine ⟨P, δ, M, _, hS, g, x, w, fun vo H1 ⟨d, M1, z1, g1, r1, ⟨p, ks, xs, ed, em⟩, q1⟩ => ?_⟩
  subst ed
  obtain ⟨vs, e1, _, _⟩ := g1.at_ p _ em
  refine ⟨p, r1, .inl ⟨_, .inl e1⟩, P, δ, M1, _, hS.mono z1, g1, x.trans z1, q1, fun vk H2 ⟨d2, M2, z2, g2, r2, q2⟩ => ⟨P, δ, M2, _, (hS.mono z1).mono z2, g2, (x.trans z1).trans z2, q2, fun vz H3 ⟨d3, M3, z3, g3, r3, p', ks', xs', j, ep, ek, em', q⟩ => ?_⟩⟩
  cases ep; subst ek
  rw [show vk = .str j from r2]
  obtain ⟨vs', e3, l, rs⟩ := g3.at_ p _ em'
  have e3 : H3 p = some (.dK (kvsOf ks' vs')) := e3
  have hg : DGet H3 p (.str j) (getK ks' vs' j) := by
    have := DGet.k (k := (Sum.inr j : Key)) e3
    rw [valV_getK] at this; exact this
  refine ⟨_, hg, k _ _ ⟨_, M3, (z1.trans z2).trans z3, g3, ?_, q⟩⟩
  obtain ⟨a, b⟩ := getK_rep j (ks := ks') rs
  cases hk : getK ks' xs' j with
  | some y =>
    obtain ⟨v, hv, rv⟩ := a y hk
    rw [hv]; exact rv
  | none => rw [b hk]; exact r3
/-- xs.extend(ys) -/
def dExt (w : DE) (t : DA) : DE := fun δ M Q => w δ M fun o M1 => isLstD o M1 ∧ t δ M1 fun ds M2 => ∃ p b xs zs, o = .ref p ∧ ds = [.ref b] ∧ M2 p = some (.lst xs) ∧ M2 b = some (.lst zs) ∧ xs.length + zs.length ≤ sizeLine ∧ Q .non (mput M2 p (.lst (xs ++ zs)))
theorem d_ext {e : Expr} (h : PE X e (tBM X.K "list" rExtend (lE (bs X CR E W) w) (lA (bs X CR E W) t))) : PD X (bs X CR E W) e (dExt w t) := by
  refine h.imp fun σ H Q h => ?_
  obtain ⟨P, δ, M, Qd, hS, g, x, w, k⟩ := h
  refine ⟨P, δ, M, _, hS, g, x, w, fun v H1 ⟨d, M1, z1, g1, r1, ⟨p, xs, ed, em⟩, q⟩ => ?_⟩
  subst ed
  obtain ⟨vs, eh, rs⟩ := g1.at_ p _ em
  rw [show v = .ref p from r1]
  refine ⟨.inl ⟨rfl, vs, .of eh⟩, P, δ, M1, _, hS.mono z1, g1, x.trans z1, q, fun us H2 ds M2 z2 g2 rs2 q2 => ?_⟩
  obtain ⟨p', b, xs', zs', ep, rfl, em', eb, hz, q3⟩ := q2
  cases ep
  obtain ⟨vs', eh', rs'⟩ := g2.at_ p _ em'
  obtain ⟨ws', ew', rw'⟩ := g2.at_ b _ eb
  obtain ⟨u, r, rfl, r1', r2⟩ := rs2
  have z3 : Fz ⟨X.K, CR, P⟩ H2 M2 (upd H2 p (.lst (vs' ++ ws'))) (mput M2 p (.lst (xs' ++ zs'))) := fz_put g2 em'
  refine ⟨p, b, vs', ws', rfl, by rw [show r = [] from r2, show u = .ref b from r1'], eh', ew', by rw [← rs'.length, ← rw'.length]; exact hz, ?_⟩
  exact k _ _ ⟨.non, _, (z1.trans z2).trans z3, good_put g2 (g2.noP em') z3 (show RepO _ _ _ p (.lst _) from ⟨_, upd_same, (rs'.append rw').mono z3⟩), rfl, q3⟩
/-- sum(xs) of ints -/
def rSumD : DC := fun ds M Q => ∃ ns : List Int, ds = [.lst (ns.map D.int)] ∧ Q (.int ns.sum) M
theorem ints_at {O : Own} {H M} : ∀ {ns : List Int} {vs : List V}, Reps O H M (ns.map D.int) vs → vs = ns.map V.int
  | [], vs, r => r
  | n :: ns, vs, r => by
    obtain ⟨v, us, rfl, r1, r2⟩ := r
    rw [show v = .int n from r1, ints_at r2]; rfl
theorem c_sumD (hc : X.calm = true) : CallR X (.builtin "sum") (lC X.K CR rSumD) := (cr_sum hc).imp fun xs H Q hh => by
  obtain ⟨P, ds, M, Qd, rs, gd, ⟨ns, rfl, q⟩, k⟩ := hh
  obtain ⟨v, r, rfl, ⟨a, vs, rfl, f, rv⟩, r2⟩ := rs
  rw [show r = [] from r2]
  have e := ints_at rv
  subst e
  exact ⟨a, ns, rfl, f.sq, k _ _ (lf_int gd q)⟩
theorem d_methC0 {C : Addr} {name : Str} {ps : List Str} {sp : DSp} {pl : Sem Bool} {j k : Nat} (O : MethC X.prog X.w X.K X.mg X.base CR k C name ps sp) (hr : Room j X.A) (tk : Takes X W) (ho : PD X (bs X CR E W) o wo) (hk : k ≤ j := by decide)
    (ht : eval (.Call (.Attribute o name apos) [] [] pos) X.env = (do
      let ov ← eval o X.env
      standAt apos.atName
      let (f, first) ← holding [ov] (getMethod ov name pl)
      callWith pos f first (backTo pos (starEach [] X.env)) (backToKw pos (keywordEach [] X.env))) := by rfl) : PD X (bs X CR E W) (.Call (.Attribute o name apos) [] [] pos) (dMethC C name sp E wo dNil) := by
  obtain ⟨f, fd, F, hb, hm⟩ := O.ex
  refine ⟨fun pins s σ H Q I h => ?_⟩
  obtain ⟨P, δ, M, Qd, hS, g, x, w, kk⟩ := h
  refine PySem.W.methodCall_KW (pl := pl) (thn (ho.run pins s σ H (fun v H' => LfV ⟨X.K, CR, P⟩ H M _ v H') I ⟨P, δ, M, _, hS, g, x, w, fun _ _ l => l⟩) fun u s1 ⟨y, H1, I1, ry, d, M1, z1, g1, r1, ns, xs, hd, hn, q1⟩ => ?_) ht
  obtain ⟨a, dx, vs0, ey, ea, _, _⟩ := hd.at_ g1 r1
  subst ey
  obtain rfl : u = Value.ref a := ry
  refine getmeth_ok I1 ea O.cls hm (lookup_none _ hn) ?_
  refine PySem.W.callWith_K0 (first := [.ref a]) I1.kIn hm.kp ?_
  refine run_fnS (E := fun σ c d H' => W c d σ H') (us := [.ref a]) (vs := [.ref a]) F (hr.mono hk) hb (passAt tk σ) I1 (.cons rfl .nil) ?_
  exact ⟨P, [d], M1, Qd, _, ⟨_, _, rfl, r1, rfl⟩, g1, q1.2, fun v H' l => kk v H' (l.trans z1), lfx_w (hS.mono z1) (x.trans z1)⟩
end
/-! ### in, not in: plain data in a list of the memory -/
theorem valM_lst {d : D} {M : Mem} {ds : List D} (h : valM d M = .lst ds) : d = .lst ds ∨ ∃ p, d = .ref p ∧ M p = some (.lst ds) := by
  unfold valM at h
  split at h
  · rename_i p
    split at h
    · rename_i xs em; cases h; exact .inr ⟨p, rfl, em⟩
    · cases h
  · exact .inl h
section
variable {X : Cx} {CR : Addr} {E : DXS} {W : WX}
def rInM : D2 := fun a b M Q => ∃ ds : List D, valM b M = .lst ds ∧ plD a 8 = true ∧ plD (.lst ds) 8 = true ∧ ∀ k : Bool, (k = true ↔ a ∈ ds) → Q (.bl k) M
def rNotInM : D2 := fun a b M Q => ∃ ds : List D, valM b M = .lst ds ∧ plD a 8 = true ∧ plD (.lst ds) 8 = true ∧ ∀ k : Bool, (k = true ↔ a ∉ ds) → Q (.bl k) M
theorem o_inM (hu : X.A.units + 65 < cLine) : OpR X (compareOp .In) (l2 X.K CR rInM) := (op_inD hu).imp fun x y H Q hh => by
  obtain ⟨P, a, b, M, Qd, ra, rb, gd, ⟨ds, hv, pa, pb, q⟩, k⟩ := hh
  have hd : Dp X.K H y (datD (.lst ds)) := by
    have := dp_valM (O := ⟨X.K, CR, P⟩) (d := b) (n := 8) gd (by rw [hv]; exact pb) rb
    rw [hv] at this; exact this
  refine ⟨_, _, dp_of pa ra, hd, shaped_of pa, shaped_of pb, k _ _ (lf_bl gd (q _ ?_))⟩
  have := any_eqv (n := 7) (ds := ds) pa pb
  rw [this]
theorem o_notInM (hu : X.A.units + 65 < cLine) : OpR X (compareOp .NotIn) (l2 X.K CR rNotInM) := (op_notInD hu).imp fun x y H Q hh => by
  obtain ⟨P, a, b, M, Qd, ra, rb, gd, ⟨ds, hv, pa, pb, q⟩, k⟩ := hh
  have hd : Dp X.K H y (datD (.lst ds)) := by
    have := dp_valM (O := ⟨X.K, CR, P⟩) (d := b) (n := 8) gd (by rw [hv]; exact pb) rb
    rw [hv] at this; exact this
  refine ⟨_, _, dp_of pa ra, hd, shaped_of pa, shaped_of pb, k _ _ (lf_bl gd (q _ ?_))⟩
  have := any_eqv (n := 7) (ds := ds) pa pb
  rw [Bool.not_eq_true', ← Bool.not_eq_true, this]
/-! ### xs.index(x) of texts -/
def rIdxD : D → List D → Mem → DK → Prop := fun o ds M Q => ∃ (p : Addr) (ns : List Str) (n : Str) (j : Nat), o = .ref p ∧ ds = [.str n] ∧ M p = some (.lst (ns.map D.str)) ∧ ns[j]? = some n ∧ (∀ m x, m < j → ns[m]? = some x → x ≠ n) ∧ Q (.int (j : Nat)) M
def dIdx (w : DE) (t : DA) : DE := fun δ M Q => w δ M fun o M1 => isLstD o M1 ∧ t δ M1 fun ds M2 => rIdxD o ds M2 Q
theorem strs_at {O : Own} {H M} : ∀ {ns : List Str} {vs : List V}, Reps O H M (ns.map D.str) vs → vs = ns.map V.str
  | [], vs, r => r
  | n :: ns, vs, r => by
    obtain ⟨v, us, rfl, r1, r2⟩ := r
    rw [show v = .str n from r1, strs_at r2]; rfl
theorem d_idx {e : Expr} {w : DE} {t : DA} (h : PE X e (tBM X.K "list" (rIndex X.K) (lE (bs X CR E W) w) (lA (bs X CR E W) t))) : PD X (bs X CR E W) e (dIdx w t) := by
  refine h.imp fun σ H Q h => ?_
  obtain ⟨P, δ, M, Qd, hS, g, x, w, k⟩ := h
  refine ⟨P, δ, M, _, hS, g, x, w, fun v H1 ⟨d, M1, z1, g1, r1, ⟨p, xs, ed, em⟩, q⟩ => ?_⟩
  subst ed
  obtain ⟨vs, eh, rs⟩ := g1.at_ p _ em
  rw [show v = .ref p from r1]
  refine ⟨.inl ⟨rfl, vs, .of eh⟩, P, δ, M1, _, hS.mono z1, g1, x.trans z1, q, fun us H2 ds M2 z2 g2 rs2 q2 => ?_⟩
  obtain ⟨p', ns, n, j, ep, rfl, em', hj, hno, q3⟩ := q2
  cases ep
  obtain ⟨vs', eh', rs'⟩ := g2.at_ p _ em'
  obtain ⟨u, r, rfl, r1', r2⟩ := rs2
  have ev := strs_at rs'
  subst ev
  refine ⟨p, ns.map V.str, .str n, j, .str n, rfl, by rw [show r = [] from r2, show u = .str n from r1'], .of eh', rfl, ?_, by rw [List.getElem?_map, hj]; rfl, ?_, fun m z' hm hz => ?_, k _ _ ((lf_int g2 q3).trans (z1.trans z2))⟩
  · rw [List.all_eq_true]
    intro v hv
    obtain ⟨a, _, rfl⟩ := List.mem_map.mp hv
    rfl
  · first | exact decide_eq_true rfl | exact beq_self_eq_true _ | simp [eqV]
  · rw [List.getElem?_map] at hz
    obtain ⟨a, ha, rfl⟩ := Option.map_eq_some_iff.mp hz
    have := hno m a hm ha
    first | exact decide_eq_false this | simp [eqV, this]
end
def w_Ratio___init__ (CR : Addr) : DSt :=
  (dSeq (dIf (dTst (dOp rEqP (dVar 2) (dC (.int 0))))
  dNever
  dNext)
  (dSeq (dSet 3 (dCB rGcdD (dCons (dVar 1) (dCons (dVar 2) dNil))))
  (dSeq (dIf (dTst (dOp rLt (dVar 2) (dC (.int 0))))
  (dSet 3 (dUn rNeg (dVar 3)))
  dNext)
  (dSeq (dFldSet (· = CR) "top" (dVar 0) (dOp rFdivB (dVar 1) (dVar 3)))
  (dFldSet (· = CR) "bottom" (dVar 0) (dOp rFdivB (dVar 2) (dVar 3)))))))
theorem rd_Ratio___init__ (CR : Addr) (ds M Q E) (h : sp_init CR ds M Q E) : w_Ratio___init__ CR { nx := fun _ M' => Q .non M', rt := Q } (startD 4 ds) M := by
  obtain ⟨p, a, b, rfl, hM, hb, hz, hq⟩ := h
  have cf : ∀ x : Int, CFb x (comm a b) := fun x => comm_ne hb
  have tail : (dSeq (dFldSet (· = CR) "top" (dVar 0) (dOp rFdivB (dVar 1) (dVar 3))) (dFldSet (· = CR) "bottom" (dVar 0) (dOp rFdivB (dVar 2) (dVar 3)))) { nx := fun _ M' => Q .non M', rt := Q } [some (.ref p), some (.int a), some (.int b), some (.int (comm a b))] M := by
    refine ⟨_, rfl, _, rfl, cf a, _, rfl, p, CR, [], [], _, _, rfl, hM, rfl, by decide, rfl, .new (by simp), ?_⟩
    refine ⟨_, rfl, _, rfl, cf b, _, rfl, p, CR, _, _, _, _, rfl, mput_same, rfl, by decide, rfl, .new (by decide), ?_⟩
    rw [mput_mput]
    show Q .non (mput M p (.ins CR ["top", "bottom"] [.int (a.fdiv (comm a b)), .int (b.fdiv (comm a b))]))
    rw [init_num hb, init_den hb]
    exact hq
  refine ⟨_, rfl, .inl ⟨rfl, rfl, fun k hk => ⟨k, rfl, ite_b (fun h1 => ?_) (fun _ => ?_)⟩⟩⟩
  · have := hk.mp h1
    injection this with h2
    exact absurd h2 hb
  · refine ⟨_, rfl, _, rfl, a, b, rfl, _, rfl, trivial, _, rfl, ite_d (fun hn => ?_) (fun hp => ?_)⟩
    · have e : comm a b = -((Nat.gcd a.natAbs b.natAbs : Nat) : Int) := if_pos hn
      rw [e] at tail
      exact ⟨_, rfl, tail⟩
    · have e : comm a b = ((Nat.gcd a.natAbs b.natAbs : Nat) : Int) := if_neg hp
      rw [e] at tail
      exact tail
theorem na {n m : Nat} (h : n ≤ 2 ^ m) : ((n : Nat) : Int).natAbs ≤ 2 ^ m := by rw [Int.natAbs_natCast]; exact h
theorem sm_nd {p q : Rat} (hp : Sm p) (hq : Sm q) : IntMulOk p.num q.den := mulS (n := 16000000) (m := 16000000) hp.1 (na hq.2)
theorem sm_nn {p q : Rat} (hp : Sm p) (hq : Sm q) : IntMulOk p.num q.num := mulS (n := 16000000) (m := 16000000) hp.1 hq.1
theorem sm_dd {p q : Rat} (hp : Sm p) (hq : Sm q) : IntMulOk (p.den : Int) q.den := mulS (n := 16000000) (m := 16000000) (na hp.2) (na hq.2)
theorem sm_dn {p q : Rat} (hp : Sm p) (hq : Sm q) : IntMulOk (p.den : Int) q.num := mulS (n := 16000000) (m := 16000000) (na hp.2) hq.1
theorem sm_z {p q : Rat} (hp : Sm p) (hq : Sm q) : szB ((p.den : Int) * q.den) := trivial
theorem sm_zn {p q : Rat} (hp : Sm p) (hq : Sm q) : szB ((p.den : Int) * q.num) := trivial
theorem sm_z1 {p : Rat} (hp : Sm p) : szB (p.den : Int) := trivial
theorem dd_ne (p q : Rat) : (p.den : Int) * q.den ≠ 0 := Int.mul_ne_zero (dne p) (dne q)
def w_Ratio___add__ : DSt :=
  (dRet (dMk (dCons (dOp rAddP (dOp rMulI (dTop (dVar 0)) (dBot (dVar 1))) (dOp rMulI (dTop (dVar 1)) (dBot (dVar 0)))) (dCons (dOp rMulI (dBot (dVar 0)) (dBot (dVar 1))) dNil))))
theorem rd_Ratio___add__ (ds M Q E) (h : sp_add ds M Q E) : w_Ratio___add__ { nx := fun _ M' => Q .non M', rt := Q } (startD 2 ds) M := by
  obtain ⟨p, q, rfl, hp, hq, h⟩ := h
  refine ⟨_, rfl, p, rfl, _, rfl, q, rfl, sm_nd hp hq, _, rfl, q, rfl, _, rfl, p, rfl, sm_nd hq hp, _, rfl, p, rfl, _, rfl, q, rfl, sm_dd hp hq, dd_ne p q, sm_z hp hq, ?_⟩
  rw [q_add]
  exact h
def w_Ratio___sub__ : DSt :=
  (dRet (dMk (dCons (dOp rSubI (dOp rMulI (dTop (dVar 0)) (dBot (dVar 1))) (dOp rMulI (dTop (dVar 1)) (dBot (dVar 0)))) (dCons (dOp rMulI (dBot (dVar 0)) (dBot (dVar 1))) dNil))))
theorem rd_Ratio___sub__ (ds M Q E) (h : sp_sub ds M Q E) : w_Ratio___sub__ { nx := fun _ M' => Q .non M', rt := Q } (startD 2 ds) M := by
  obtain ⟨p, q, rfl, hp, hq, h⟩ := h
  refine ⟨_, rfl, p, rfl, _, rfl, q, rfl, sm_nd hp hq, _, rfl, q, rfl, _, rfl, p, rfl, sm_nd hq hp, trivial, _, rfl, p, rfl, _, rfl, q, rfl, sm_dd hp hq, dd_ne p q, sm_z hp hq, ?_⟩
  rw [q_sub]
  exact h
def w_Ratio___mul__ : DSt :=
  (dRet (dMk (dCons (dOp rMulI (dTop (dVar 0)) (dTop (dVar 1))) (dCons (dOp rMulI (dBot (dVar 0)) (dBot (dVar 1))) dNil))))
theorem rd_Ratio___mul__ (ds M Q E) (h : sp_mul ds M Q E) : w_Ratio___mul__ { nx := fun _ M' => Q .non M', rt := Q } (startD 2 ds) M := by
  obtain ⟨p, q, rfl, hp, hq, h⟩ := h
  refine ⟨_, rfl, p, rfl, _, rfl, q, rfl, sm_nn hp hq, _, rfl, p, rfl, _, rfl, q, rfl, sm_dd hp hq, dd_ne p q, sm_z hp hq, ?_⟩
  rw [q_mul]
  exact h
def w_Ratio___neg__ : DSt :=
  (dRet (dMk (dCons (dUn rNeg (dTop (dVar 0))) (dCons (dBot (dVar 0)) dNil))))
theorem rd_Ratio___neg__ (ds M Q E) (h : sp_neg ds M Q E) : w_Ratio___neg__ { nx := fun _ M' => Q .non M', rt := Q } (startD 1 ds) M := by
  obtain ⟨p, rfl, hp, h⟩ := h
  refine ⟨_, rfl, p, rfl, _, rfl, p, rfl, dne p, sm_z1 hp, ?_⟩
  rw [q_neg]
  exact h
def w_Ratio___eq__ : DSt :=
  (dRet (dAndV (dIsR (dVar 1)) (dAndV (dOp rEqP (dTop (dVar 0)) (dTop (dVar 1))) (dOp rEqP (dBot (dVar 0)) (dBot (dVar 1))))))
theorem rd_Ratio___eq__ (ds M Q E) (h : sp_eq ds M Q E) : w_Ratio___eq__ { nx := fun _ M' => Q .non M', rt := Q } (startD 2 ds) M := by
  obtain ⟨p, d, r, rfl, he, h⟩ := h
  have fl : ∀ n, tyD d M = some n → n ∈ tyNs → Q (.bl false) M → w_Ratio___eq__ { nx := fun _ M' => Q .non M', rt := Q } (startD 2 [.rat p, d]) M := fun n hn hm q => by
    refine ⟨_, rfl, ?_⟩
    cases d with
    | rat q => cases hn
    | _ => exact ⟨n, hn, hm, false, rfl, ite_f q⟩
  cases d with
  | int i => cases he; exact fl _ rfl (by decide) h
  | str i => cases he; exact fl _ rfl (by decide) h
  | non => cases he; exact fl _ rfl (by decide) h
  | bl i => cases he; exact fl _ rfl (by decide) h
  | ref _ => cases he
  | ty _ => cases he
  | tup _ => cases he
  | prs _ => cases he
  | lst _ => cases he
  | scr _ => cases he
  | obj _ _ _ => cases he
  | rat q =>
  injection he with he
  subst he
  have no : p ≠ q → Q (.bl false) M := fun n => by rw [decide_eq_false n] at h; exact h
  refine ⟨_, rfl, true, rfl, ite_t ⟨_, rfl, p, rfl, _, rfl, q, rfl, .inl ⟨rfl, rfl, fun k hk => ⟨k, rfl, ite_b (fun h1 => ?_) (fun h1 => ?_)⟩⟩⟩⟩
  · have e1 := hk.mp h1
    injection e1 with e1
    refine ⟨_, rfl, p, rfl, _, rfl, q, rfl, .inl ⟨rfl, rfl, fun j hj => ?_⟩⟩
    cases j with
    | true =>
      have e2 := hj.mp rfl
      injection e2 with e2
      rw [decide_eq_true ((q_eq p q).mpr ⟨e1, e2⟩)] at h
      exact h
    | false => exact no fun e => absurd (hj.mpr (by rw [e])) Bool.false_ne_true
  · exact no fun e => by
      rw [hk.mpr (by rw [e])] at h1
      cases h1
def w_Ratio___lt__ : DSt :=
  (dRet (dOp rLt (dOp rMulI (dTop (dVar 0)) (dBot (dVar 1))) (dOp rMulI (dTop (dVar 1)) (dBot (dVar 0)))))
theorem rd_Ratio___lt__ (ds M Q E) (h : sp_lt ds M Q E) : w_Ratio___lt__ { nx := fun _ M' => Q .non M', rt := Q } (startD 2 ds) M := by
  obtain ⟨p, q, rfl, hp, hq, h⟩ := h
  refine ⟨_, rfl, p, rfl, _, rfl, q, rfl, sm_nd hp hq, _, rfl, q, rfl, _, rfl, p, rfl, sm_nd hq hp, trivial, ?_⟩
  have e : decide (p.num * (q.den : Int) < q.num * (p.den : Int)) = decide (p < q) := decide_eq_decide.mpr (Rat.lt_iff p q).symm
  show Q (.bl (decide (p.num * (q.den : Int) < q.num * (p.den : Int)))) M
  rw [e]
  exact h
def w_Ratio___le__ : DSt :=
  (dRet (dOp rLe (dOp rMulI (dTop (dVar 0)) (dBot (dVar 1))) (dOp rMulI (dTop (dVar 1)) (dBot (dVar 0)))))
theorem rd_Ratio___le__ (ds M Q E) (h : sp_le ds M Q E) : w_Ratio___le__ { nx := fun _ M' => Q .non M', rt := Q } (startD 2 ds) M := by
  obtain ⟨p, q, rfl, hp, hq, h⟩ := h
  refine ⟨_, rfl, p, rfl, _, rfl, q, rfl, sm_nd hp hq, _, rfl, q, rfl, _, rfl, p, rfl, sm_nd hq hp, trivial, ?_⟩
  have e : decide (p.num * (q.den : Int) ≤ q.num * (p.den : Int)) = decide (p ≤ q) := decide_eq_decide.mpr (Rat.le_iff p q).symm
  show Q (.bl (decide (p.num * (q.den : Int) ≤ q.num * (p.den : Int)))) M
  rw [e]
  exact h
def w_Ratio___gt__ : DSt :=
  (dRet (dOp rGt (dOp rMulI (dTop (dVar 0)) (dBot (dVar 1))) (dOp rMulI (dTop (dVar 1)) (dBot (dVar 0)))))
theorem rd_Ratio___gt__ (ds M Q E) (h : sp_gt ds M Q E) : w_Ratio___gt__ { nx := fun _ M' => Q .non M', rt := Q } (startD 2 ds) M := by
  obtain ⟨p, q, rfl, hp, hq, h⟩ := h
  refine ⟨_, rfl, p, rfl, _, rfl, q, rfl, sm_nd hp hq, _, rfl, q, rfl, _, rfl, p, rfl, sm_nd hq hp, trivial, ?_⟩
  have e : decide (p.num * (q.den : Int) > q.num * (p.den : Int)) = decide (q < p) := decide_eq_decide.mpr (Rat.lt_iff q p).symm
  show Q (.bl (decide (p.num * (q.den : Int) > q.num * (p.den : Int)))) M
  rw [e]
  exact h
def w_Ratio___ge__ : DSt :=
  (dRet (dOp rGe (dOp rMulI (dTop (dVar 0)) (dBot (dVar 1))) (dOp rMulI (dTop (dVar 1)) (dBot (dVar 0)))))
theorem rd_Ratio___ge__ (ds M Q E) (h : sp_ge ds M Q E) : w_Ratio___ge__ { nx := fun _ M' => Q .non M', rt := Q } (startD 2 ds) M := by
  obtain ⟨p, q, rfl, hp, hq, h⟩ := h
  refine ⟨_, rfl, p, rfl, _, rfl, q, rfl, sm_nd hp hq, _, rfl, q, rfl, _, rfl, p, rfl, sm_nd hq hp, trivial, ?_⟩
  have e : decide (p.num * (q.den : Int) ≥ q.num * (p.den : Int)) = decide (q ≤ p) := decide_eq_decide.mpr (Rat.le_iff q p).symm
  show Q (.bl (decide (p.num * (q.den : Int) ≥ q.num * (p.den : Int)))) M
  rw [e]
  exact h
def w_Ratio___abs__ : DSt :=
  (dRet (dMk (dCons (dCB rAbsI (dCons (dTop (dVar 0)) dNil)) (dCons (dBot (dVar 0)) dNil))))
theorem rd_Ratio___abs__ (ds M Q E) (h : sp_abs ds M Q E) : w_Ratio___abs__ { nx := fun _ M' => Q .non M', rt := Q } (startD 1 ds) M := by
  obtain ⟨p, rfl, hp, h⟩ := h
  refine ⟨_, rfl, p, rfl, p.num, rfl, _, rfl, p, rfl, dne p, sm_z1 hp, ?_⟩
  have e : (if p.num < 0 then -p.num else p.num) = (p.num.natAbs : Int) := by split <;> omega
  rw [e, q_abs]
  exact h
def w_Ratio_over_fdb9 : DSt :=
  (dRet (dMk (dCons (dOp rMulI (dTop (dVar 0)) (dBot (dVar 1))) (dCons (dOp rMulI (dBot (dVar 0)) (dTop (dVar 1))) dNil))))
theorem rd_Ratio_over_fdb9 (ds M Q E) (h : sp_over ds M Q E) : w_Ratio_over_fdb9 { nx := fun _ M' => Q .non M', rt := Q } (startD 2 ds) M := by
  obtain ⟨p, q, rfl, hp, hq, h0, h⟩ := h
  have hn : q.num ≠ 0 := fun e => h0 (q_num0.mp e)
  refine ⟨_, rfl, p, rfl, _, rfl, q, rfl, sm_nd hp hq, _, rfl, p, rfl, _, rfl, q, rfl, sm_dn hp hq, Int.mul_ne_zero (dne p) hn, sm_zn hp hq, ?_⟩
  rw [q_over p q h0]
  exact h
/-! vectors of fractions -/
def ratsD (xs : List Rat) : List D := xs.map D.rat
def vecD (xs : List Rat) : D := .tup (ratsD xs)
def Bts (n : Nat) (xs : List Rat) : Prop := ∀ x, x ∈ xs → Bt n x
theorem Bts.mono {n m : Nat} {xs : List Rat} (h : Bts n xs) (k : n ≤ m) : Bts m xs := fun x hx => (h x hx).mono k
theorem Bt.sm {n : Nat} {q : Rat} (h : Bt n q) (k : n ≤ 4096) : Sm q := h.mono (Nat.le_trans k (by decide))
theorem Bt.smW {n : Nat} {q : Rat} (h : Bt n q) (k : n ≤ 16000000) : Sm q := h.mono k
def dotR : List Rat → List Rat → Rat
  | x :: xs, y :: ys => x * y + dotR xs ys
  | _, _ => 0
def mapR2 (f : Rat → Rat → Rat) : List Rat → List Rat → List Rat
  | x :: xs, y :: ys => f x y :: mapR2 f xs ys
  | _, _ => []
theorem mapR2_len {f : Rat → Rat → Rat} : ∀ xs ys : List Rat, xs.length = ys.length → (mapR2 f xs ys).length = xs.length
  | [], _, _ => rfl
  | _ :: _, [], h => by cases h
  | x :: xs, y :: ys, h => by
    show (mapR2 f xs ys).length + 1 = _
    rw [mapR2_len xs ys (by simpa using h)]; rfl
theorem mapR2_get {f : Rat → Rat → Rat} : ∀ {xs ys : List Rat} {i : Nat} {a b : Rat}, xs[i]? = some a → ys[i]? = some b → (mapR2 f xs ys)[i]? = some (f a b)
  | x :: xs, y :: ys, 0, a, b, h1, h2 => by simp at h1 h2; subst h1; subst h2; rfl
  | x :: xs, y :: ys, i + 1, a, b, h1, h2 => by
    show (mapR2 f xs ys)[i]? = _
    exact mapR2_get (by simpa using h1) (by simpa using h2)
  | [], _, _, _, _, h, _ => by simp at h
  | _ :: _, [], _, _, _, _, h => by simp at h
theorem ratsD_len (xs : List Rat) : (ratsD xs).length = xs.length := List.length_map ..
theorem ratsD_get {xs : List Rat} {i : Nat} {q : Rat} (h : xs[i]? = some q) : (ratsD xs)[i]? = some (.rat q) := by unfold ratsD; rw [List.getElem?_map, h]; rfl
theorem ratsD_at {xs : List Rat} {k : Int} (h0 : 0 ≤ k) (h1 : k < xs.length) : ∃ q, xs[k.toNat]? = some q ∧ q ∈ xs ∧ atI (ratsD xs) k = some (.rat q) := by
  have hk : k.toNat < xs.length := by omega
  exact ⟨xs[k.toNat], List.getElem?_eq_getElem hk, List.getElem_mem hk, atI_nn h0 (ratsD_get (List.getElem?_eq_getElem hk))⟩
theorem gyes {j : Nat} {x : D} {δ : DS0} {M : Mem} {te : DE} {K : DK} {F : Mem → Prop} (h : te (δ.set j (some x)) M K) : gNm j x δ M fun δ2 M2 => dYes δ2 M2 fun b M3 => if b = true then te δ2 M3 K else F M3 := ite_t (B := F M) h
/-- a comprehension over zip of two vectors -/
theorem lc_zip {i j : Nat} {te : DE} {δ : DS0} {Q : List D → Mem → Prop} (f : Rat → Rat → Rat) (P : Rat → Rat → Prop) (h : ∀ x y M (K : DK), P x y → K (.rat (f x y)) M → te ((δ.set i (some (.rat x))).set j (some (.rat y))) M K) :
    ∀ (xs ys : List Rat) (acc : List D) M, (∀ x y, x ∈ xs → y ∈ ys → P x y) → acc.length + xs.length ≤ sizeLine → Q (acc ++ ratsD (mapR2 f xs ys)) M → dLcL always (gTu 2 (gsCons (gNm i) (gsCons (gNm j) gsNil))) dYes te δ (pairsD (ratsD xs) (ratsD ys)) acc M Q
  | [], ys, acc, M, _, _, q => ⟨trivial, by simpa [mapR2, ratsD] using q⟩
  | x :: xs, [], acc, M, _, _, q => ⟨trivial, by simpa [mapR2, ratsD] using q⟩
  | x :: xs, y :: ys, acc, M, hp, hl, q => by
    refine ⟨trivial, by rw [List.length_cons] at hl; omega, _, rfl, rfl, _, _, rfl, _, _, rfl, rfl, ?_⟩
    refine ite_t (B := dLcL always (gTu 2 (gsCons (gNm i) (gsCons (gNm j) gsNil))) dYes te δ (pairsD (ratsD xs) (ratsD ys)) acc M Q) (h x y M _ (hp x y List.mem_cons_self List.mem_cons_self) (lc_zip f P h xs ys _ M (fun a b ha hb => hp a b (List.mem_cons_of_mem _ ha) (List.mem_cons_of_mem _ hb)) ?_ ?_))
    · rw [List.length_append, List.length_singleton]; rw [List.length_cons] at hl; omega
    · rw [List.append_assoc]; exact q
/-- a comprehension over a range -/
theorem lc_rng {j : Nat} {te : DE} {δ : DS0} {Q : List D → Mem → Prop} (f : Nat → D) (h : ∀ (k : Nat) M (K : DK), K (f k) M → te (δ.set j (some (.int (k : Int)))) M K) :
    ∀ (n a : Nat) (acc : List D) M, acc.length + n ≤ sizeLine → Q (acc ++ (List.range' a n).map f) M → dLcL always (gNm j) dYes te δ ((List.range' a n).map fun (k : Nat) => D.int (k : Int)) acc M Q
  | 0, a, acc, M, _, q => ⟨trivial, by simpa using q⟩
  | n + 1, a, acc, M, hl, q => by
    refine ⟨trivial, by omega, ?_⟩
    refine ite_t (B := dLcL always (gNm j) dYes te δ ((List.range' (a + 1) n).map fun (k : Nat) => D.int (k : Int)) acc M Q) (h a M _ (lc_rng f h n (a + 1) _ M ?_ ?_))
    · rw [List.length_append, List.length_singleton]; omega
    · rw [List.append_assoc]; exact q
theorem rngD_eq (n : Nat) : rngD 0 (n : Int) = (List.range' 0 n).map fun (k : Nat) => D.int (k : Int) := by
  unfold rngD
  have e : ((n : Int) - 0).toNat = n := by omega
  rw [e, List.range_eq_range']
  exact List.map_congr_left fun k _ => by simp
theorem rats_mem {xs : List Rat} {d : D} (h : d ∈ ratsD xs) : ∃ q, q ∈ xs ∧ d = .rat q := by
  obtain ⟨q, hq, rfl⟩ := List.mem_map.mp h
  exact ⟨q, hq, rfl⟩
/-- over a range, with the place's bounds -/
theorem lc_rngB {j N : Nat} {te : DE} {δ : DS0} {Q : List D → Mem → Prop} (f : Nat → D) (h : ∀ (k : Nat) M (K : DK), k < N → K (f k) M → te (δ.set j (some (.int (k : Int)))) M K) :
    ∀ (n a : Nat) (acc : List D) M, a + n ≤ N → acc.length + n ≤ sizeLine → Q (acc ++ (List.range' a n).map f) M → dLcL always (gNm j) dYes te δ ((List.range' a n).map fun (k : Nat) => D.int (k : Int)) acc M Q
  | 0, a, acc, M, _, _, q => ⟨trivial, by simpa using q⟩
  | n + 1, a, acc, M, hN, hl, q => by
    refine ⟨trivial, by omega, ?_⟩
    refine ite_t (B := dLcL always (gNm j) dYes te δ ((List.range' (a + 1) n).map fun (k : Nat) => D.int (k : Int)) acc M Q) (h a M _ (by omega) (lc_rngB f h n (a + 1) _ M (by omega) ?_ ?_))
    · rw [List.length_append, List.length_singleton]; omega
    · rw [List.append_assoc]; exact q
/-- what a test leaves -/
theorem lc_filter {j : Nat} {tt : DT} {δ : DS0} {Q : List D → Mem → Prop} (keep : D → Bool) (P : D → Prop) (hj : j < δ.length) (h : ∀ x M (K : Bool → Mem → Prop), P x → K (keep x) M → tt (δ.set j (some x)) M K) :
    ∀ (xs acc : List D) M, (∀ x, x ∈ xs → P x) → acc.length + xs.length ≤ sizeLine → Q (acc ++ xs.filter keep) M → dLcL always (gNm j) tt (dVar j) δ xs acc M Q
  | [], acc, M, _, _, q => ⟨trivial, by simpa using q⟩
  | x :: xs, acc, M, hp, hl, q => by
    rw [List.length_cons] at hl
    refine ⟨trivial, by omega, h x M _ (hp x List.mem_cons_self) ?_⟩
    rw [List.filter_cons] at q
    cases hk : keep x with
    | true =>
      rw [hk, if_pos rfl] at q
      refine ite_t (B := dLcL always (gNm j) tt (dVar j) δ xs acc M Q) ⟨x, List.getElem?_set_self hj, lc_filter keep P hj h xs _ M (fun y hy => hp y (List.mem_cons_of_mem _ hy)) ?_ ?_⟩
      · rw [List.length_append, List.length_singleton]; omega
      · rw [List.append_assoc]; exact q
    | false =>
      rw [hk, if_neg Bool.false_ne_true] at q
      exact ite_f (lc_filter keep P hj h xs acc M (fun y hy => hp y (List.mem_cons_of_mem _ hy)) (by omega) q)
/-! sizes by common denominators -/
def CD (D N : Nat) (q : Rat) : Prop := ∃ i : Int, q * (D : Rat) = (i : Rat) ∧ i.natAbs ≤ N
theorem CD.mono {D N N' : Nat} {q : Rat} (h : CD D N q) (k : N ≤ N') : CD D N' q := let ⟨i, e, l⟩ := h; ⟨i, e, Nat.le_trans l k⟩
theorem CD.mulD {D N : Nat} {q : Rat} (E : Nat) (h : CD D N q) : CD (D * E) (N * E) q := by
  obtain ⟨i, e, l⟩ := h
  refine ⟨i * E, ?_, by rw [Int.natAbs_mul, Int.natAbs_natCast]; exact Nat.mul_le_mul_right _ l⟩
  rw [Rat.intCast_mul, ← e, Rat.natCast_mul]
  have : ((E : Int) : Rat) = (E : Rat) := rfl
  rw [this]; grind
theorem CD.add {D N N' : Nat} {p q : Rat} (h : CD D N p) (h' : CD D N' q) : CD D (N + N') (p + q) := by
  obtain ⟨i, e, l⟩ := h
  obtain ⟨j, e', l'⟩ := h'
  refine ⟨i + j, ?_, Nat.le_trans (Int.natAbs_add_le _ _) (Nat.add_le_add l l')⟩
  rw [Rat.intCast_add, ← e, ← e']; grind
theorem CD.neg {D N : Nat} {p : Rat} (h : CD D N p) : CD D N (-p) := by
  obtain ⟨i, e, l⟩ := h
  refine ⟨-i, ?_, by rw [Int.natAbs_neg]; exact l⟩
  rw [Rat.intCast_neg, ← e]; grind
theorem CD.sub {D N N' : Nat} {p q : Rat} (h : CD D N p) (h' : CD D N' q) : CD D (N + N') (p - q) := by
  have := h.add h'.neg
  rw [Rat.sub_eq_add_neg]; exact this
theorem CD.mul {D E N N' : Nat} {p q : Rat} (h : CD D N p) (h' : CD E N' q) : CD (D * E) (N * N') (p * q) := by
  obtain ⟨i, e, l⟩ := h
  obtain ⟨j, e', l'⟩ := h'
  refine ⟨i * j, ?_, by rw [Int.natAbs_mul]; exact Nat.mul_le_mul l l'⟩
  rw [Rat.intCast_mul, ← e, ← e', Rat.natCast_mul]; grind
theorem cd_int {N : Nat} {i : Int} (h : i.natAbs ≤ N) : CD 1 N (i : Rat) := ⟨i, by grind, h⟩
theorem cd_zero {D N : Nat} : CD D N 0 := ⟨0, by grind, Nat.zero_le _⟩
theorem cd_div {a : Int} {b N : Nat} (hb : 0 < b) (h : a.natAbs ≤ N) : CD b N (Rat.divInt a b) := by
  refine ⟨a, ?_, h⟩
  rw [Rat.divInt_eq_div]
  have e : ((b : Int) : Rat) = (b : Rat) := rfl
  rw [e]
  have : (b : Rat) ≠ 0 := fun z => by
    have : ((b : Nat) : Rat) = ((0 : Nat) : Rat) := z
    have := Rat.natCast_inj.mp this
    omega
  grind
theorem CD.eq {D N : Nat} {q : Rat} (h : CD D N q) (hD : 0 < D) : ∃ i : Int, q = Rat.divInt i D ∧ i.natAbs ≤ N := by
  obtain ⟨i, e, l⟩ := h
  refine ⟨i, ?_, l⟩
  rw [Rat.divInt_eq_div]
  have e2 : ((D : Int) : Rat) = (D : Rat) := rfl
  rw [e2]
  have : (D : Rat) ≠ 0 := fun z => by
    have : ((D : Nat) : Rat) = ((0 : Nat) : Rat) := z
    have := Rat.natCast_inj.mp this
    omega
  grind
theorem CD.bt {D N n : Nat} {q : Rat} (h : CD D N q) (hD : 0 < D) (h1 : D ≤ 2 ^ n) (h2 : N ≤ 2 ^ n) : Bt n q := by
  obtain ⟨i, rfl, l⟩ := h.eq hD
  exact bt_div (Nat.le_trans l h2) (by rw [Int.natAbs_natCast]; exact h1)
/-- two rows whose products have room -/
structure DotOk (xs ys : List Rat) (B1 N1 B2 N2 : Nat) : Prop where
  len : xs.length = ys.length
  few : xs.length ≤ 1000
  p1 : 0 < B1
  p2 : 0 < B2
  c1 : ∀ x, x ∈ xs → CD B1 N1 x
  c2 : ∀ y, y ∈ ys → CD B2 N2 y
  b1 : B1 ≤ 2 ^ 16000000
  b2 : B2 ≤ 2 ^ 16000000
  n1 : N1 ≤ 2 ^ 16000000
  n2 : N2 ≤ 2 ^ 16000000
  bb : B1 * B2 ≤ 2 ^ 16000000
  nn : (xs.length + 1) * (N1 * N2) ≤ 2 ^ 16000000
/-! matrices of fractions: rows -/
def matD (m : List (List Rat)) : D := .tup (m.map vecD)
def Btm (n : Nat) (m : List (List Rat)) : Prop := ∀ r, r ∈ m → Bts n r
/-- all rows are w long -/
def Wid (w : Nat) (m : List (List Rat)) : Prop := ∀ r, r ∈ m → r.length = w
def gtR (xs : List Rat) (k : Nat) : Rat := xs[k]?.getD 0
def colR (m : List (List Rat)) (j : Nat) : List Rat := m.map fun r => gtR r j
def transR (m : List (List Rat)) (w : Nat) : List (List Rat) := (List.range' 0 w).map fun j => colR m j
def applyR (m : List (List Rat)) (v : List Rat) : List Rat := m.map fun r => dotR r v
def prodR (a b : List (List Rat)) (w : Nat) : List (List Rat) := a.map fun r => applyR (transR b w) r
def identR (n : Nat) : List (List Rat) := (List.range' 0 n).map fun i => (List.range' 0 n).map fun k => if k = i then 1 else 0
def outerR (a b : List Rat) : List (List Rat) := a.map fun x => b.map fun y => x * y
/-- a comprehension over the rows of a matrix -/
theorem lc_rows {j : Nat} {te : DE} {δ : DS0} {Q : List D → Mem → Prop} (f : List Rat → D) (P : List Rat → Prop) (h : ∀ r M (K : DK), P r → K (f r) M → te (δ.set j (some (vecD r))) M K) :
    ∀ (m : List (List Rat)) (acc : List D) M, (∀ r, r ∈ m → P r) → acc.length + m.length ≤ sizeLine → Q (acc ++ m.map f) M → dLcL always (gNm j) dYes te δ (m.map vecD) acc M Q
  | [], acc, M, _, _, q => ⟨trivial, by simpa using q⟩
  | r :: m, acc, M, hp, hl, q => by
    refine ⟨trivial, by rw [List.length_cons] at hl; omega, ?_⟩
    refine ite_t (B := dLcL always (gNm j) dYes te δ (m.map vecD) acc M Q) (h r M _ (hp r List.mem_cons_self) (lc_rows f P h m _ M (fun y hy => hp y (List.mem_cons_of_mem _ hy)) ?_ ?_))
    · rw [List.length_append, List.length_singleton]; rw [List.length_cons] at hl; omega
    · rw [List.append_assoc]; exact q
theorem gtR_mem {xs : List Rat} {k : Nat} (h : k < xs.length) : gtR xs k ∈ xs ∧ atI (ratsD xs) (k : Int) = some (.rat (gtR xs k)) := by
  obtain ⟨q, e, m, a⟩ := ratsD_at (xs := xs) (k := (k : Int)) (by omega) (by omega)
  have e2 : gtR xs k = q := by unfold gtR; rw [show xs[k]? = some q by rw [← e]; rfl]; rfl
  rw [e2]
  exact ⟨m, a⟩
/-- a fraction as the law keeps it -/
def pairD (q : Rat) : D := .tup [.int q.num, .int q.den]
theorem euclid_half {x y : Int} (hy : 0 < y) (hyx : y < x) : 2 * (x % y) < x := by
  have h1 := Int.emod_lt_of_pos x hy
  by_cases h : 2 * y ≤ x
  · omega
  · have : x % y = x - y := by
      have e : x = (x - y) + y * 1 := by omega
      have h2 : (x - y) % y = x - y := Int.emod_eq_of_lt (by omega) (by omega)
      rw [e, Int.add_mul_emod_self_left, h2]; omega
    omega
/-- steps enough for Euclid's way -/
def Fuel (n : Nat) (x y : Int) : Prop := (∃ b : Nat, y < 2 ^ b ∧ 2 * b ≤ n) ∨ ∃ b : Nat, y < x ∧ x < 2 ^ b ∧ 2 * b ≤ n + 1
theorem fuel_end {x y : Int} (h0 : 0 ≤ y) (h : Fuel 0 x y) : y = 0 := by
  rcases h with ⟨b, h1, h2⟩ | ⟨b, h1, h2, h3⟩
  · obtain rfl : b = 0 := by omega
    have : y < 1 := by simpa using h1
    omega
  · obtain rfl : b = 0 := by omega
    have : x < 1 := by simpa using h2
    omega
theorem fuel_step {n : Nat} {x y : Int} (h0 : 0 < y) (h : Fuel (n + 1) x y) : Fuel n y (x % y) := by
  have hm := Int.emod_lt_of_pos x h0
  rcases h with ⟨b, h1, h2⟩ | ⟨b, h1, h2, h3⟩
  · exact .inr ⟨b, hm, h1, by omega⟩
  · cases b with
    | zero =>
      have : x < 1 := by simpa using h2
      omega
    | succ b =>
      have := euclid_half h0 h1
      have e : (2 : Int) ^ (b + 1) = 2 ^ b * 2 := Int.pow_succ ..
      exact .inl ⟨b, by omega, by omega⟩
theorem gcd_step {x y : Int} (h0 : 0 ≤ x) (h1 : 0 ≤ y) : Nat.gcd y.natAbs (x % y).natAbs = Nat.gcd x.natAbs y.natAbs := by
  rw [Int.natAbs_emod_of_nonneg h0, Nat.gcd_comm x.natAbs]
  exact (Nat.gcd_comm _ _).trans (Nat.gcd_rec _ _).symm
def TapeOk (ts : List Int) : Prop := ts.length ≤ 2520 ∧ ∀ t, t ∈ ts → 0 ≤ t ∧ t < 2147483648
def dInts (ts : List Int) : List D := ts.map D.int
theorem tape_app {ts : List Int} {n : Nat} {t : Int} (h : ts.length ≤ n ∧ ∀ t, t ∈ ts → 0 ≤ t ∧ t < 2147483648) (h0 : 0 ≤ t) (h1 : t < 2147483648) : (ts ++ [t]).length ≤ n + 1 ∧ ∀ u, u ∈ ts ++ [t] → 0 ≤ u ∧ u < 2147483648 := by
  refine ⟨by rw [List.length_append, List.length_singleton]; omega, fun u hu => ?_⟩
  rcases List.mem_append.mp hu with hu | hu
  · exact h.2 u hu
  · rw [List.mem_singleton.mp hu]; exact ⟨h0, h1⟩
theorem dInts_app (ts : List Int) (t : Int) : dInts ts ++ [.int t] = dInts (ts ++ [t]) := by unfold dInts; rw [List.map_append]; rfl
/-- the law's state at st: a tape and a place; b: the place is at most b -/
def Lw (st : Addr) (b : Nat) (M : Mem) : Prop := ∃ (ts : List Int) (k : Int), TapeOk ts ∧ 0 ≤ k ∧ k ≤ b ∧ M st = some (.lst [.lst (dInts ts), .int k])
/-- but at st all is as it was -/
def Off (st : Addr) (M M' : Mem) : Prop := ∀ a, a ≠ st → M' a = M a
theorem Off.refl {st M} : Off st M M := fun _ _ => rfl
theorem Off.trans {st M M1 M2} (a : Off st M M1) (b : Off st M1 M2) : Off st M M2 := fun x h => (b x h).trans (a x h)
theorem Lw.mono {st b c M} (h : Lw st b M) (hbc : b ≤ c) : Lw st c M := let ⟨ts, k, t, h0, h1, e⟩ := h; ⟨ts, k, t, h0, by omega, e⟩
theorem at_mem {α : Type} {xs : List α} {k : Int} (h0 : 0 ≤ k) (h1 : k < xs.length) : ∃ d, atI xs k = some d ∧ d ∈ xs := by
  have hk : k.toNat < xs.length := by omega
  exact ⟨xs[k.toNat], atI_nn h0 (List.getElem?_eq_getElem hk), List.getElem_mem hk⟩
theorem rngD_len (j : Int) : (rngD 0 j).length = j.toNat := by unfold rngD; simp
/-! rows of fractions as the law keeps them -/
def prs (xs : List Rat) : List D := xs.map pairD
theorem prs_len (xs : List Rat) : (prs xs).length = xs.length := List.length_map ..
theorem prs_at {xs : List Rat} {k : Int} (h0 : 0 ≤ k) (h1 : k < xs.length) : ∃ q, xs[k.toNat]? = some q ∧ q ∈ xs ∧ atI (prs xs) k = some (pairD q) := by
  have hk : k.toNat < xs.length := by omega
  refine ⟨xs[k.toNat], List.getElem?_eq_getElem hk, List.getElem_mem hk, atI_nn h0 ?_⟩
  unfold prs; rw [List.getElem?_map, List.getElem?_eq_getElem hk]; rfl
theorem prs_mem {xs : List Rat} {d : D} (h : d ∈ prs xs) : ∃ q, q ∈ xs ∧ d = pairD q := by
  obtain ⟨q, hq, rfl⟩ := List.mem_map.mp h
  exact ⟨q, hq, rfl⟩
theorem szb_of {n : Nat} {q : Rat} (h : Bt n q) (hn : n ≤ 8960 := by decide) : szB (q.den : Int) := trivial
/-- a comprehension over such a row -/
theorem lc_prs {j : Nat} {te : DE} {δ : DS0} {Q : List D → Mem → Prop} (f : Rat → D) (P : Rat → Prop) (h : ∀ x M (K : DK), P x → K (f x) M → te (δ.set j (some (pairD x))) M K) :
    ∀ (xs : List Rat) (acc : List D) M, (∀ x, x ∈ xs → P x) → acc.length + xs.length ≤ sizeLine → Q (acc ++ xs.map f) M → dLcL always (gNm j) dYes te δ (prs xs) acc M Q
  | [], acc, M, _, _, q => ⟨trivial, by simpa using q⟩
  | x :: xs, acc, M, hp, hl, q => by
    refine ⟨trivial, by rw [List.length_cons] at hl; omega, ?_⟩
    refine ite_t (B := dLcL always (gNm j) dYes te δ (prs xs) acc M Q) (h x M _ (hp x List.mem_cons_self) (lc_prs f P h xs _ M (fun y hy => hp y (List.mem_cons_of_mem _ hy)) ?_ ?_))
    · rw [List.length_append, List.length_singleton]; rw [List.length_cons] at hl; omega
    · rw [List.append_assoc]; exact q
/-- the number at a place, 0 behind the end -/
def gt (xs : List Rat) (k : Nat) : Rat := xs[k]?.getD 0
theorem gt_eq {xs : List Rat} {k : Nat} {x : Rat} (h : xs[k]? = some x) : gt xs k = x := by unfold gt; rw [h]; rfl
theorem prs_gt {xs : List Rat} {k : Nat} (h : k < xs.length) : gt xs k ∈ xs ∧ atI (prs xs) (k : Int) = some (pairD (gt xs k)) := by
  obtain ⟨q, e, m, a⟩ := prs_at (xs := xs) (k := (k : Int)) (by omega) (by omega)
  have e2 : gt xs k = q := gt_eq (by rw [← e]; rfl)
  rw [e2]
  exact ⟨m, a⟩
theorem map_pairs (f : Nat → Rat) (l : List Nat) : l.map (fun k => pairD (f k)) = prs (l.map f) := by unfold prs; rw [List.map_map]; rfl
/-- a comprehension that makes a value of each, by any telling of them -/
theorem lc_of {α : Type} {j : Nat} {te : DE} {δ : DS0} {Q : List D → Mem → Prop} (g f : α → D) (P : α → Prop) (h : ∀ r M (K : DK), P r → K (f r) M → te (δ.set j (some (g r))) M K) :
    ∀ (m : List α) (acc : List D) M, (∀ r, r ∈ m → P r) → acc.length + m.length ≤ sizeLine → Q (acc ++ m.map f) M → dLcL always (gNm j) dYes te δ (m.map g) acc M Q
  | [], acc, M, _, _, q => ⟨trivial, by simpa using q⟩
  | r :: m, acc, M, hp, hl, q => by
    refine ⟨trivial, by rw [List.length_cons] at hl; omega, ?_⟩
    refine ite_t (B := dLcL always (gNm j) dYes te δ (m.map g) acc M Q) (h r M _ (hp r List.mem_cons_self) (lc_of g f P h m _ M (fun y hy => hp y (List.mem_cons_of_mem _ hy)) ?_ ?_))
    · rw [List.length_append, List.length_singleton]; rw [List.length_cons] at hl; omega
    · rw [List.append_assoc]; exact q
/-- the same over zip -/
theorem lc_zipG {α β : Type} {i j : Nat} {te : DE} {δ : DS0} {Q : List D → Mem → Prop} (g : α → D) (g2 : β → D) (f : α → β → D) (P : α → β → Prop) (h : ∀ x y M (K : DK), P x y → K (f x y) M → te ((δ.set i (some (g x))).set j (some (g2 y))) M K) :
    ∀ (xs : List α) (ys : List β) (acc : List D) M, (∀ x y, x ∈ xs → y ∈ ys → P x y) → acc.length + xs.length ≤ sizeLine → Q (acc ++ List.zipWith f xs ys) M → dLcL always (gTu 2 (gsCons (gNm i) (gsCons (gNm j) gsNil))) dYes te δ (pairsD (xs.map g) (ys.map g2)) acc M Q
  | [], ys, acc, M, _, _, q => ⟨trivial, by simpa using q⟩
  | x :: xs, [], acc, M, _, _, q => ⟨trivial, by simpa using q⟩
  | x :: xs, y :: ys, acc, M, hp, hl, q => by
    refine ⟨trivial, by rw [List.length_cons] at hl; omega, _, rfl, rfl, _, _, rfl, _, _, rfl, rfl, ?_⟩
    refine ite_t (B := dLcL always (gTu 2 (gsCons (gNm i) (gsCons (gNm j) gsNil))) dYes te δ (pairsD (xs.map g) (ys.map g2)) acc M Q) (h x y M _ (hp x y List.mem_cons_self List.mem_cons_self) (lc_zipG g g2 f P h xs ys _ M (fun a b ha hb => hp a b (List.mem_cons_of_mem _ ha) (List.mem_cons_of_mem _ hb)) ?_ ?_))
    · rw [List.length_append, List.length_singleton]; rw [List.length_cons] at hl; omega
    · rw [List.append_assoc]; exact q
def sumM (a b : List (List Rat)) : List (List Rat) := List.zipWith (mapR2 fun x y => x + y) a b
def scaleM (q : Rat) (m : List (List Rat)) : List (List Rat) := m.map fun r => r.map (q * ·)
def Sms (m : List (List Rat)) : Prop := ∀ r, r ∈ m → ∀ x, x ∈ r → Sm x
def Len (m : List (List Rat)) : Prop := m.length ≤ 1000000 ∧ ∀ r, r ∈ m → r.length ≤ 1000000
/-- rows as the law keeps them -/
def lrow (r : List Rat) : D := .lst (prs r)
def rowsD (m : List (List Rat)) : D := .lst (m.map lrow)
theorem zip_map {α γ : Type} (f : α → α → α) (g : α → γ) (xs ys : List α) : List.zipWith (fun x y => g (f x y)) xs ys = (List.zipWith f xs ys).map g := by
  rw [List.map_zipWith]
/-! plain laws of matrices of fractions -/
def sumR : Nat → (Nat → Rat) → Rat
  | 0, _ => 0
  | n + 1, f => sumR n f + f n
theorem sum_congr {f g : Nat → Rat} : ∀ {n : Nat}, (∀ k, k < n → f k = g k) → sumR n f = sumR n g
  | 0, _ => rfl
  | n + 1, h => by
    show sumR n f + f n = sumR n g + g n
    rw [sum_congr (fun k hk => h k (by omega)), h n (by omega)]
theorem sum_add (f g : Nat → Rat) : ∀ n : Nat, sumR n (fun k => f k + g k) = sumR n f + sumR n g
  | 0 => by show (0 : Rat) = 0 + 0; grind
  | n + 1 => by
    show sumR n _ + (f n + g n) = (sumR n f + f n) + (sumR n g + g n)
    rw [sum_add f g n]; grind
theorem sum_mulL (c : Rat) (f : Nat → Rat) : ∀ n : Nat, sumR n (fun k => c * f k) = c * sumR n f
  | 0 => by show (0 : Rat) = c * 0; grind
  | n + 1 => by
    show sumR n _ + c * f n = c * (sumR n f + f n)
    rw [sum_mulL c f n]; grind
theorem sum_mulR (c : Rat) (f : Nat → Rat) (n : Nat) : sumR n (fun k => f k * c) = sumR n f * c := by
  rw [Rat.mul_comm, ← sum_mulL]; exact sum_congr fun k _ => Rat.mul_comm ..
theorem sum_zero (f : Nat → Rat) : ∀ n : Nat, (∀ k, k < n → f k = 0) → sumR n f = 0
  | 0, _ => rfl
  | n + 1, h => by
    show sumR n f + f n = 0
    rw [sum_zero f n (fun k hk => h k (by omega)), h n (by omega)]; grind
theorem sum_swap (f : Nat → Nat → Rat) (m : Nat) : ∀ n : Nat, sumR n (fun i => sumR m (fun j => f i j)) = sumR m (fun j => sumR n (fun i => f i j))
  | 0 => (sum_zero _ m fun _ _ => rfl).symm
  | n + 1 => by
    show sumR n _ + sumR m (fun j => f n j) = sumR m (fun j => sumR n (fun i => f i j) + f n j)
    rw [sum_swap f m n, sum_add]
/-- a sum with one term that counts -/
theorem sum_one (f : Nat → Rat) (i : Nat) : ∀ n : Nat, i < n → (∀ k, k < n → k ≠ i → f k = 0) → sumR n f = f i
  | 0, h, _ => by omega
  | n + 1, h, hz => by
    show sumR n f + f n = f i
    by_cases e : i = n
    · subst e
      rw [sum_zero f i fun k hk => hz k (by omega) (by omega)]; grind
    · rw [sum_one f i n (by omega) fun k hk => hz k (by omega), hz n (by omega) (Ne.symm e)]; grind
theorem sum_shift (f : Nat → Rat) : ∀ n : Nat, sumR (n + 1) f = f 0 + sumR n fun k => f (k + 1)
  | 0 => by show (0 : Rat) + f 0 = f 0 + 0; grind
  | n + 1 => by
    show sumR (n + 1) f + f (n + 1) = f 0 + (sumR n (fun k => f (k + 1)) + f (n + 1))
    rw [sum_shift f n]; grind
theorem gtR_cons0 (x : Rat) (xs : List Rat) : gtR (x :: xs) 0 = x := rfl
theorem gtR_consS (x : Rat) (xs : List Rat) (k : Nat) : gtR (x :: xs) (k + 1) = gtR xs k := rfl
theorem dot_sum : ∀ (xs ys : List Rat), xs.length = ys.length → dotR xs ys = sumR ys.length fun k => gtR xs k * gtR ys k
  | [], [], _ => rfl
  | [], _ :: _, h => by cases h
  | _ :: _, [], h => by cases h
  | x :: xs, y :: ys, h => by
    show x * y + dotR xs ys = sumR (ys.length + 1) _
    rw [sum_shift, dot_sum xs ys (by simpa using h)]; rfl
theorem row_ext {xs ys : List Rat} (h : xs.length = ys.length) (e : ∀ k, k < ys.length → gtR xs k = gtR ys k) : xs = ys := by
  refine List.ext_getElem h fun i h1 h2 => ?_
  have := e i h2
  unfold gtR at this
  rw [List.getElem?_eq_getElem h1, List.getElem?_eq_getElem h2] at this
  exact this
def rowR (m : List (List Rat)) (i : Nat) : List Rat := m[i]?.getD []
def ent (m : List (List Rat)) (i j : Nat) : Rat := gtR (rowR m i) j
theorem rowR_mem {m : List (List Rat)} {i : Nat} (h : i < m.length) : rowR m i ∈ m := by
  unfold rowR; rw [List.getElem?_eq_getElem h]; exact List.getElem_mem h
theorem mat_ext {w : Nat} {a b : List (List Rat)} (h : a.length = b.length) (ha : Wid w a) (hb : Wid w b) (e : ∀ i j, i < b.length → j < w → ent a i j = ent b i j) : a = b := by
  refine List.ext_getElem h fun i h1 h2 => ?_
  have ra : rowR a i = a[i] := by unfold rowR; rw [List.getElem?_eq_getElem h1]; rfl
  have rb : rowR b i = b[i] := by unfold rowR; rw [List.getElem?_eq_getElem h2]; rfl
  have la := ha _ (List.getElem_mem h1)
  have lb := hb _ (List.getElem_mem h2)
  refine row_ext (by rw [la, lb]) fun k hk => ?_
  have := e i k h2 (by omega)
  unfold ent at this
  rw [ra, rb] at this
  exact this
theorem row_map {f : List Rat → List Rat} {m : List (List Rat)} {i : Nat} (h : i < m.length) : rowR (m.map f) i = f (rowR m i) := by
  unfold rowR; rw [List.getElem?_map, List.getElem?_eq_getElem h]; rfl
theorem gt_map {f : List Rat → Rat} {m : List (List Rat)} {i : Nat} (h : i < m.length) : gtR (m.map f) i = f (rowR m i) := by
  unfold gtR rowR; rw [List.getElem?_map, List.getElem?_eq_getElem h]; rfl
theorem row_trans {m : List (List Rat)} {w i : Nat} (h : i < w) : rowR (transR m w) i = colR m i := by
  unfold rowR transR; rw [List.getElem?_map, List.getElem?_range' h]; simp
theorem ent_trans {m : List (List Rat)} {w i j : Nat} (h : i < w) (hj : j < m.length) : ent (transR m w) i j = ent m j i := by
  unfold ent; rw [row_trans h]; unfold colR; rw [gt_map hj]
theorem ent_prod {a b : List (List Rat)} {w i j : Nat} (ha : Wid b.length a) (hi : i < a.length) (hj : j < w) : ent (prodR a b w) i j = sumR b.length fun k => ent a i k * ent b k j := by
  unfold ent prodR
  rw [row_map hi]
  unfold applyR
  have lt : (transR b w).length = w := by unfold transR; rw [List.length_map, List.length_range']
  rw [gt_map (by rw [lt]; exact hj), row_trans hj]
  have lc : (colR b j).length = b.length := List.length_map ..
  have lr := ha _ (rowR_mem hi)
  rw [dot_sum _ _ (by rw [lc, lr]), lr]
  refine sum_congr fun k hk => ?_
  have : gtR (colR b j) k = gtR (rowR b k) j := by unfold colR; rw [gt_map hk]
  rw [this, Rat.mul_comm]
theorem gt_apply {m : List (List Rat)} {v : List Rat} {i : Nat} (hw : Wid v.length m) (hi : i < m.length) : gtR (applyR m v) i = sumR v.length fun k => ent m i k * gtR v k := by
  unfold applyR
  rw [gt_map hi, dot_sum _ _ (hw _ (rowR_mem hi))]
  rfl
theorem prod_wid (a b : List (List Rat)) (w : Nat) : Wid w (prodR a b w) := fun r hr => by
  obtain ⟨x, _, rfl⟩ := List.mem_map.mp hr
  show (applyR _ _).length = w
  unfold applyR transR; rw [List.length_map, List.length_map, List.length_range']
theorem prod_len (a b : List (List Rat)) (w : Nat) : (prodR a b w).length = a.length := List.length_map ..
/-- products do not depend on brackets -/
theorem prod_assoc {a b c : List (List Rat)} {w1 w2 : Nat} (ha : Wid b.length a) (hb : Wid c.length b) (h1 : w1 = c.length) : prodR (prodR a b w1) c w2 = prodR a (prodR b c w2) w2 := by
  refine mat_ext (w := w2) (by rw [prod_len, prod_len, prod_len]) (prod_wid _ _ _) (prod_wid _ _ _) fun i j hi hj => ?_
  rw [prod_len] at hi
  rw [ent_prod (by rw [← h1]; exact prod_wid a b w1) (by rw [prod_len]; exact hi) hj, ent_prod (by rw [prod_len]; exact ha) hi hj, prod_len]
  have e1 : (sumR c.length fun k => ent (prodR a b w1) i k * ent c k j) = sumR c.length fun k => sumR b.length fun l => ent a i l * ent b l k * ent c k j :=
    sum_congr fun k hk => by rw [ent_prod ha hi (by omega), sum_mulR]
  have e2 : (sumR b.length fun l => ent a i l * ent (prodR b c w2) l j) = sumR b.length fun l => sumR c.length fun k => ent a i l * ent b l k * ent c k j :=
    sum_congr fun l hl => by
      rw [ent_prod hb hl hj, ← sum_mulL]
      exact sum_congr fun k _ => by rw [Rat.mul_assoc]
  rw [e1, e2, sum_swap]
theorem trans_len' (b : List (List Rat)) (w : Nat) : (transR b w).length = w := by unfold transR; rw [List.length_map, List.length_range']
theorem trans_wid' (b : List (List Rat)) (w : Nat) : Wid b.length (transR b w) := fun r hr => by
  obtain ⟨j, _, rfl⟩ := List.mem_map.mp hr
  exact List.length_map ..
theorem apply_len (m : List (List Rat)) (v : List Rat) : (applyR m v).length = m.length := List.length_map ..
theorem apply_prod {a b : List (List Rat)} {x : List Rat} {w : Nat} (ha : Wid b.length a) (hb : Wid x.length b) (hw : w = x.length) : applyR (prodR a b w) x = applyR a (applyR b x) := by
  refine row_ext (by rw [apply_len, apply_len, prod_len]) fun i hi => ?_
  rw [apply_len] at hi
  rw [gt_apply (by rw [← hw]; exact prod_wid a b w) (by rw [prod_len]; exact hi), gt_apply (by rw [apply_len]; exact ha) hi, apply_len]
  have e1 : (sumR x.length fun k => ent (prodR a b w) i k * gtR x k) = sumR x.length fun k => sumR b.length fun l => ent a i l * ent b l k * gtR x k :=
    sum_congr fun k hk => by rw [ent_prod ha hi (by omega), sum_mulR]
  have e2 : (sumR b.length fun l => ent a i l * gtR (applyR b x) l) = sumR b.length fun l => sumR x.length fun k => ent a i l * ent b l k * gtR x k :=
    sum_congr fun l hl => by
      rw [gt_apply hb hl, ← sum_mulL]
      exact sum_congr fun k _ => by rw [Rat.mul_assoc]
  rw [e1, e2, sum_swap]
theorem trans_prod {a b : List (List Rat)} {w1 w2 : Nat} (ha : Wid b.length a) (hb : Wid w2 b) (h1 : w1 = b.length) : transR (prodR a b w2) w2 = prodR (transR b w2) (transR a w1) a.length := by
  refine mat_ext (w := a.length) (by rw [trans_len', prod_len, trans_len']) (by have := trans_wid' (prodR a b w2) w2; rw [prod_len] at this; exact this) (prod_wid _ _ _) fun i j hi hj => ?_
  rw [prod_len, trans_len'] at hi
  rw [ent_trans hi (by rw [prod_len]; exact hj), ent_prod ha hj hi, ent_prod (by rw [trans_len', h1]; exact trans_wid' b w2) (by rw [trans_len']; exact hi) hj, trans_len', h1]
  refine sum_congr fun k hk => ?_
  rw [ent_trans hi hk, ent_trans hk hj, Rat.mul_comm]
theorem trans_trans {a : List (List Rat)} {w : Nat} (ha : Wid w a) : transR (transR a w) a.length = a := by
  refine mat_ext (w := w) (by rw [trans_len']) (by have := trans_wid' (transR a w) a.length; rw [trans_len'] at this; exact this) ha fun i j hi hj => ?_
  rw [ent_trans hi (by rw [trans_len']; exact hj), ent_trans hj hi]
theorem ident_len (n : Nat) : (identR n).length = n := by unfold identR; rw [List.length_map, List.length_range']
theorem ident_wid (n : Nat) : Wid n (identR n) := fun r hr => by
  obtain ⟨j, _, rfl⟩ := List.mem_map.mp hr
  rw [List.length_map, List.length_range']
theorem ent_ident {n i j : Nat} (hi : i < n) (hj : j < n) : ent (identR n) i j = if j = i then 1 else 0 := by
  unfold ent rowR identR
  rw [List.getElem?_map, List.getElem?_range' hi]
  unfold gtR
  simp only [Option.map_some, Option.getD_some, Nat.zero_add, Nat.one_mul]
  rw [List.getElem?_map, List.getElem?_range' hj]
  simp
theorem prod_ident {a : List (List Rat)} {w : Nat} (ha : Wid w a) : prodR a (identR w) w = a := by
  refine mat_ext (w := w) (prod_len ..) (prod_wid _ _ _) ha fun i j hi hj => ?_
  rw [ent_prod (by rw [ident_len]; exact ha) hi hj, ident_len, sum_one _ j w hj fun k hk hne => by rw [ent_ident hk hj, if_neg (Ne.symm hne)]; grind]
  rw [ent_ident hj hj, if_pos rfl]; grind
theorem ident_prod {a : List (List Rat)} {w : Nat} (ha : Wid w a) : prodR (identR a.length) a w = a := by
  refine mat_ext (w := w) (by rw [prod_len, ident_len]) (prod_wid _ _ _) ha fun i j hi hj => ?_
  rw [ent_prod (ident_wid _) (by rw [ident_len]; exact hi) hj, sum_one _ i a.length hi fun k hk hne => by rw [ent_ident hi hk, if_neg hne]; grind]
  rw [ent_ident hi hi, if_pos rfl]; grind
theorem apply_outer (y z : List Rat) : applyR (outerR y z) z = y.map (dotR z z * ·) := by
  unfold applyR outerR
  rw [List.map_map]
  refine List.map_congr_left fun x _ => ?_
  show dotR (z.map fun t => x * t) z = dotR z z * x
  have h : ∀ (u v : List Rat), dotR (u.map fun t => x * t) v = dotR u v * x := by
    intro u
    induction u with
    | nil => intro v; show (0 : Rat) = 0 * x; grind
    | cons a u ih =>
      intro v
      cases v with
      | nil => show (0 : Rat) = 0 * x; grind
      | cons b v =>
        show x * a * b + dotR (u.map fun t => x * t) v = (a * b + dotR u v) * x
        rw [ih]; grind
  exact h z z
theorem dot_move {a : List (List Rat)} {y z : List Rat} {w : Nat} (ha : Wid z.length a) (hy : y.length = a.length) (hw : w = z.length) : dotR (applyR a z) y = dotR z (applyR (transR a w) y) := by
  rw [dot_sum _ _ (by rw [apply_len, hy]), dot_sum _ _ (by rw [apply_len, trans_len', hw]), apply_len, trans_len', hw]
  have e1 : (sumR y.length fun k => gtR (applyR a z) k * gtR y k) = sumR y.length fun k => sumR z.length fun l => ent a k l * gtR z l * gtR y k :=
    sum_congr fun k hk => by rw [gt_apply ha (by omega), sum_mulR]
  have e2 : (sumR z.length fun l => gtR z l * gtR (applyR (transR a z.length) y) l) = sumR z.length fun l => sumR y.length fun k => ent a k l * gtR z l * gtR y k :=
    sum_congr fun l hl => by
      rw [gt_apply (by rw [hy]; exact trans_wid' a _) (by rw [trans_len']; exact hl), ← sum_mulL]
      refine sum_congr fun k hk => ?_
      rw [ent_trans hl (by omega)]; grind
  rw [e1, e2, sum_swap]
theorem prod_sym {a : List (List Rat)} {w : Nat} (ha : Wid w a) : transR (prodR a (transR a w) a.length) a.length = prodR a (transR a w) a.length := by
  rw [trans_prod (w1 := w) (by rw [trans_len']; exact ha) (trans_wid' a w) (by rw [trans_len']), trans_trans ha]
/-- sizes -/
theorem bt_dot {n : Nat} : ∀ {xs ys : List Rat}, xs.length = ys.length → Bts n xs → Bts n ys → Bt ((2 * n + 1) * ys.length) (dotR xs ys)
  | [], [], _, _, _ => ⟨Nat.zero_le _, Nat.one_le_two_pow⟩
  | [], _ :: _, h, _, _ => by cases h
  | _ :: _, [], h, _, _ => by cases h
  | x :: xs, y :: ys, h, hx, hy => by
    have a := bt_mul (hx x List.mem_cons_self) (hy y List.mem_cons_self)
    have b := bt_dot (xs := xs) (ys := ys) (by simpa using h) (fun z hz => hx z (List.mem_cons_of_mem _ hz)) fun z hz => hy z (List.mem_cons_of_mem _ hz)
    refine (bt_add a b).mono ?_
    rw [List.length_cons, Nat.mul_add]; omega
theorem bts_apply {n : Nat} {m : List (List Rat)} {v : List Rat} (hw : Wid v.length m) (hm : Btm n m) (hv : Bts n v) : Bts ((2 * n + 1) * v.length) (applyR m v) := fun x hx => by
  obtain ⟨r, hr, rfl⟩ := List.mem_map.mp hx
  exact bt_dot (hw r hr) (hm r hr) hv
theorem btm_trans {n w : Nat} {m : List (List Rat)} (hw : Wid w m) (hm : Btm n m) : Btm n (transR m w) := fun r hr x hx => by
  obtain ⟨j, hj, rfl⟩ := List.mem_map.mp hr
  obtain ⟨row, hrow, rfl⟩ := List.mem_map.mp hx
  have := (List.mem_range'_1.mp hj).2
  exact hm row hrow _ (gtR_mem (by rw [hw row hrow]; omega)).1
theorem btm_prod {n w : Nat} {a b : List (List Rat)} (ha : Wid b.length a) (hb : Wid w b) (h1 : Btm n a) (h2 : Btm n b) : Btm ((2 * n + 1) * b.length) (prodR a b w) := fun r hr => by
  obtain ⟨x, hx, rfl⟩ := List.mem_map.mp hr
  have l := ha x hx
  have := bts_apply (m := transR b w) (v := x) (by rw [l]; exact trans_wid' b w) (btm_trans hb h2) (h1 x hx)
  rw [l] at this
  exact this
theorem Btm.mono {n k : Nat} {m : List (List Rat)} (h : Btm n m) (hk : n ≤ k) : Btm k m := fun r hr => (h r hr).mono hk
theorem dec_cons {α : Type} [DecidableEq α] (x y : α) (xs ys : List α) : decide (x :: xs = y :: ys) = (decide (x = y) && decide (xs = ys)) := by
  rw [Bool.eq_iff_iff]; simp
/-- == of rows, of matrices: the answer -/
theorem ansTs_list {α : Type} [DecidableEq α] {f : Ans} (g : α → D) (hf : ∀ x y, f (g x) (g y) = some (decide (x = y))) : ∀ xs ys : List α, ∃ rs, ansTs f (xs.map g) (ys.map g) = some rs ∧ (rs.all id && (xs.map g).length == (ys.map g).length) = decide (xs = ys)
  | [], [] => ⟨[], rfl, rfl⟩
  | [], y :: ys => ⟨[], rfl, by simp⟩
  | x :: xs, [] => ⟨[], rfl, by simp⟩
  | x :: xs, y :: ys => by
    obtain ⟨rs, e, h⟩ := ansTs_list g hf xs ys
    refine ⟨decide (x = y) :: rs, ?_, ?_⟩
    · show ((f (g x) (g y)).bind fun r => (ansTs f (xs.map g) (ys.map g)).map fun rs => r :: rs) = _
      rw [hf, e]; rfl
    · rw [dec_cons, ← h, List.all_cons, List.map_cons, List.map_cons, List.length_cons, List.length_cons]
      have : ((xs.map g).length + 1 == (ys.map g).length + 1) = ((xs.map g).length == (ys.map g).length) := by rw [Bool.eq_iff_iff]; simp
      rw [this, Bool.and_assoc]; rfl
theorem ans_row (xs ys : List Rat) : ansT ansR (vecD xs) (vecD ys) = some (decide (xs = ys)) := by
  obtain ⟨rs, e, h⟩ := ansTs_list (f := ansR) D.rat (fun x y => rfl) xs ys
  show (ansTs ansR (xs.map D.rat) (ys.map D.rat)).map _ = _
  rw [e, ← h]; rfl
theorem ans_mat (a b : List (List Rat)) : ansT ansRow (matD a) (matD b) = some (decide (a = b)) := by
  obtain ⟨rs, e, h⟩ := ansTs_list (f := ansRow) vecD (fun x y => ans_row x y) a b
  show (ansTs ansRow (a.map vecD) (b.map vecD)).map _ = _
  rw [e, ← h]; rfl
def symB (m : List (List Rat)) : Bool := (m.all fun r => decide (r.length = m.length)) && decide (m = transR m m.length)
theorem rows_gt {g : List Rat → D} {m : List (List Rat)} {k : Nat} (h : k < m.length) : rowR m k ∈ m ∧ atI (m.map g) (k : Int) = some (g (rowR m k)) := by
  refine ⟨rowR_mem h, atI_nn (by omega) ?_⟩
  show (m.map g)[k]? = _
  unfold rowR
  rw [List.getElem?_map, List.getElem?_eq_getElem h]; rfl
theorem prs_gtR {xs : List Rat} {k : Nat} (h : k < xs.length) : gtR xs k ∈ xs ∧ atI (prs xs) (k : Int) = some (pairD (gtR xs k)) := prs_gt h
/-- a comprehension over a range that makes lists for changing -/
theorem lc_rngR {j N : Nat} {te : DE} {δ : DS0} {Q : List D → Mem → Prop} (f : Nat → List D) (h : ∀ (k : Nat) M (K : DK), k < N → (∀ p, M p = none → K (.ref p) (mput M p (.lst (f k)))) → te (δ.set j (some (.int (k : Int)))) M K) :
    ∀ (n a : Nat) (ps : List Addr) M, a + n ≤ N → ps.length + n ≤ sizeLine →
      (∀ qs M', (∀ q, q ∈ qs → M q = none) → qs.length = n → (∀ (i i2 : Nat) q, qs[i]? = some q → qs[i2]? = some q → i = i2) → (∀ (i : Nat) q, qs[i]? = some q → M' q = some (.lst (f (a + i)))) → (∀ x, x ∉ qs → M' x = M x) → Q ((ps ++ qs).map D.ref) M') →
      dLcL always (gNm j) dYes te δ ((List.range' a n).map fun (k : Nat) => D.int (k : Int)) (ps.map D.ref) M Q
  | 0, a, ps, M, _, _, q => ⟨trivial, by
    have := q [] M (fun q hq => (nomatch hq)) rfl (fun i i2 q hq => by simp at hq) (fun i q hq => by simp at hq) (fun x _ => rfl)
    rwa [List.append_nil] at this⟩
  | n + 1, a, ps, M, hN, hl, q => by
    refine ⟨trivial, by rw [List.length_map]; omega, ?_⟩
    refine ite_t (B := dLcL always (gNm j) dYes te δ ((List.range' (a + 1) n).map fun (k : Nat) => D.int (k : Int)) (ps.map D.ref) M Q) (h a M _ (by omega) fun p hp => ?_)
    have e : ps.map D.ref ++ [D.ref p] = (ps ++ [p]).map D.ref := by rw [List.map_append]; rfl
    rw [e]
    refine lc_rngR f h n (a + 1) (ps ++ [p]) _ (by omega) (by rw [List.length_append, List.length_singleton]; omega) fun qs M' h1 h2 h3 h4 h5 => ?_
    rw [List.append_assoc]
    have pn : p ∉ qs := fun m => by have := h1 p m; rw [mput_same] at this; cases this
    refine q (p :: qs) M' (fun x hx => ?_) (by rw [List.length_cons, h2]) (fun i i2 x hi hi2 => ?_) (fun i x hi => ?_) (fun x hx => ?_)
    · rcases List.mem_cons.mp hx with rfl | hx
      · exact hp
      · have := h1 x hx
        rwa [mput_ne (fun z : x = p => pn (z ▸ hx))] at this
    · cases i with
      | zero =>
        cases i2 with
        | zero => rfl
        | succ i2 => simp at hi hi2; subst hi; exact absurd (List.mem_of_getElem? hi2) pn
      | succ i =>
        cases i2 with
        | zero => simp at hi hi2; subst hi2; exact absurd (List.mem_of_getElem? hi) pn
        | succ i2 => rw [h3 i i2 x (by simpa using hi) (by simpa using hi2)]
    · cases i with
      | zero =>
        simp at hi; subst hi
        rw [h5 p pn, mput_same]; rfl
      | succ i => rw [h4 i x (by simpa using hi), show a + 1 + i = a + (i + 1) by omega]
    · rw [h5 x (fun m => hx (List.mem_cons_of_mem _ m)), mput_ne fun z : x = p => hx (z ▸ List.mem_cons_self)]
/-- a square matrix by its entries -/
def rowB (n : Nat) (f : Nat → Rat) : List Rat := (List.range' 0 n).map f
def bldR (n : Nat) (f : Nat → Nat → Rat) : List (List Rat) := (List.range' 0 n).map fun k => rowB n (f k)
theorem rowB_len (n : Nat) (f : Nat → Rat) : (rowB n f).length = n := by unfold rowB; rw [List.length_map, List.length_range']
theorem bld_len (n : Nat) (f : Nat → Nat → Rat) : (bldR n f).length = n := by unfold bldR; rw [List.length_map, List.length_range']
theorem bld_wid (n : Nat) (f : Nat → Nat → Rat) : Wid n (bldR n f) := fun r hr => by
  obtain ⟨k, _, rfl⟩ := List.mem_map.mp hr
  exact rowB_len ..
theorem gtR_rowB {n k : Nat} {f : Nat → Rat} (h : k < n) : gtR (rowB n f) k = f k := by
  unfold gtR rowB; rw [List.getElem?_map, List.getElem?_range' h]; simp
theorem row_bld {n k : Nat} {f : Nat → Nat → Rat} (h : k < n) : rowR (bldR n f) k = rowB n (f k) := by
  unfold rowR bldR; rw [List.getElem?_map, List.getElem?_range' h]; simp
theorem ent_bld {n i j : Nat} {f : Nat → Nat → Rat} (hi : i < n) (hj : j < n) : ent (bldR n f) i j = f i j := by
  unfold ent; rw [row_bld hi, gtR_rowB hj]
theorem btm_bld {n z : Nat} {f : Nat → Nat → Rat} (h : ∀ i j, i < n → j < n → Bt z (f i j)) : Btm z (bldR n f) := fun r hr x hx => by
  obtain ⟨k, hk, rfl⟩ := List.mem_map.mp hr
  obtain ⟨l, hl2, rfl⟩ := List.mem_map.mp hx
  have := (List.mem_range'_1.mp hk).2
  have := (List.mem_range'_1.mp hl2).2
  exact h k l (by omega) (by omega)
theorem sym_yes {n : Nat} {f : Nat → Nat → Rat} (h : ∀ i j, i < n → j < n → f i j = f j i) : symB (bldR n f) = true := by
  unfold symB
  rw [bld_len]
  have e : bldR n f = transR (bldR n f) n := mat_ext (w := n) (by rw [bld_len, trans_len']) (bld_wid n f) (by have := trans_wid' (bldR n f) n; rw [bld_len] at this; exact this) fun i j hi hj => by
    rw [trans_len'] at hi
    rw [ent_trans hi (by rw [bld_len]; exact hj), ent_bld hi hj, ent_bld hj hi, h i j hi hj]
  rw [decide_eq_true e, Bool.and_true, List.all_eq_true]
  exact fun r hr => decide_eq_true (bld_wid n f r hr)
theorem sym_no {n i j : Nat} {f : Nat → Nat → Rat} (hi : i < n) (hj : j < n) (h : f i j ≠ f j i) : symB (bldR n f) = false := by
  unfold symB
  rw [bld_len]
  have e : bldR n f ≠ transR (bldR n f) n := fun e => h (by
    have := congrArg (fun m => ent m i j) e
    rw [ent_trans hi (by rw [bld_len]; exact hj), ent_bld hi hj, ent_bld hj hi] at this
    exact this)
  rw [decide_eq_false e, Bool.and_false]
def fM (M : Mem) (p : Addr) : List D := match M p with
  | some (.lst xs) => xs
  | _ => []
/-- over a range, the memory as it is -/
theorem lc_rngM {j N : Nat} {te : DE} {δ : DS0} {M : Mem} {Q : List D → Mem → Prop} (f : Nat → D) (h : ∀ (k : Nat) (K : DK), k < N → K (f k) M → te (δ.set j (some (.int (k : Int)))) M K) :
    ∀ (n a : Nat) (acc : List D), a + n ≤ N → acc.length + n ≤ sizeLine → Q (acc ++ (List.range' a n).map f) M → dLcL always (gNm j) dYes te δ ((List.range' a n).map fun (k : Nat) => D.int (k : Int)) acc M Q
  | 0, a, acc, _, _, q => ⟨trivial, by simpa using q⟩
  | n + 1, a, acc, hN, hl, q => by
    refine ⟨trivial, by omega, ?_⟩
    refine ite_t (B := dLcL always (gNm j) dYes te δ ((List.range' (a + 1) n).map fun (k : Nat) => D.int (k : Int)) acc M Q) (h a _ (by omega) (lc_rngM f h n (a + 1) _ (by omega) ?_ ?_))
    · rw [List.length_append, List.length_singleton]; omega
    · rw [List.append_assoc]; exact q
theorem gtR_some {xs : List Rat} {k : Nat} (h : k < xs.length) : xs[k]? = some (gtR xs k) := by
  unfold gtR; rw [List.getElem?_eq_getElem h]; rfl
def bld2 (h w : Nat) (f : Nat → Nat → Rat) : List (List Rat) := (List.range' 0 h).map fun k => rowB w (f k)
theorem bld2_eq {h w : Nat} {m : List (List Rat)} {f : Nat → Nat → Rat} (h1 : m.length = h) (h2 : Wid w m) (e : ∀ i j, i < h → j < w → ent m i j = f i j) : bld2 h w f = m := by
  have lb : (bld2 h w f).length = h := by unfold bld2; rw [List.length_map, List.length_range']
  refine mat_ext (w := w) (by rw [lb, h1]) (fun r hr => ?_) h2 fun i j hi hj => ?_
  · obtain ⟨k, _, rfl⟩ := List.mem_map.mp hr
    exact rowB_len ..
  · rw [e i j (by omega) hj]
    unfold ent
    have : rowR (bld2 h w f) i = rowB w (f i) := by
      unfold rowR bld2; rw [List.getElem?_map, List.getElem?_range' (by omega)]; simp
    rw [this, gtR_rowB hj]
theorem sum_len {a b : List (List Rat)} (h : a.length = b.length) : (sumM a b).length = a.length := by unfold sumM; rw [List.length_zipWith]; omega
theorem sum_row {a b : List (List Rat)} {i : Nat} (h1 : i < a.length) (h2 : i < b.length) : rowR (sumM a b) i = mapR2 (fun x y => x + y) (rowR a i) (rowR b i) := by
  unfold rowR sumM
  rw [List.getElem?_zipWith, List.getElem?_eq_getElem h1, List.getElem?_eq_getElem h2]; rfl
theorem sum_ent {a b : List (List Rat)} {w i j : Nat} (ha : Wid w a) (hb : Wid w b) (h1 : i < a.length) (h2 : i < b.length) (hj : j < w) : ent (sumM a b) i j = ent a i j + ent b i j := by
  unfold ent
  rw [sum_row h1 h2]
  have l1 := ha _ (rowR_mem h1)
  have l2 := hb _ (rowR_mem h2)
  have := mapR2_get (f := fun x y => x + y) (gtR_some (xs := rowR a i) (k := j) (by omega)) (gtR_some (xs := rowR b i) (k := j) (by omega))
  show gtR (mapR2 (fun x y => x + y) _ _) j = _
  unfold gtR at this ⊢
  rw [this]; rfl
theorem sum_wid {a b : List (List Rat)} {w : Nat} (ha : Wid w a) (hb : Wid w b) (h : a.length = b.length) : Wid w (sumM a b) := fun r hr => by
  obtain ⟨i, hi, rfl⟩ := List.getElem_of_mem hr
  rw [sum_len h] at hi
  have e : (sumM a b)[i]'(by rw [sum_len h]; exact hi) = rowR (sumM a b) i := by
    unfold rowR; rw [List.getElem?_eq_getElem (by rw [sum_len h]; exact hi)]; rfl
  rw [e, sum_row hi (by omega), mapR2_len _ _ (by rw [ha _ (rowR_mem hi), hb _ (rowR_mem (by omega))]), ha _ (rowR_mem hi)]
theorem gtR_mapQ {xs : List Rat} {f : Rat → Rat} {k : Nat} (h : k < xs.length) : gtR (xs.map f) k = f (gtR xs k) := by
  unfold gtR; rw [List.getElem?_map, List.getElem?_eq_getElem h]; rfl
theorem outer_wid (a b : List Rat) : Wid b.length (outerR a b) := fun r hr => by
  obtain ⟨x, _, rfl⟩ := List.mem_map.mp hr
  exact List.length_map ..
theorem outer_len (a b : List Rat) : (outerR a b).length = a.length := List.length_map ..
theorem outer_row {a b : List Rat} {i : Nat} (h : i < a.length) : rowR (outerR a b) i = b.map (gtR a i * ·) := by
  unfold rowR outerR; rw [List.getElem?_map, gtR_some h]; rfl
theorem outer_ent {a b : List Rat} {i j : Nat} (h : i < a.length) (h2 : j < b.length) : ent (outerR a b) i j = gtR a i * gtR b j := by
  unfold ent; rw [outer_row h, gtR_mapQ h2]
theorem scale_ent {m : List (List Rat)} {q : Rat} {w i j : Nat} (hm : Wid w m) (h : i < m.length) (h2 : j < w) : ent (scaleM q m) i j = q * ent m i j := by
  unfold ent scaleM
  rw [row_map h, gtR_mapQ (by rw [hm _ (rowR_mem h)]; exact h2)]
theorem scale_wid {m : List (List Rat)} {q : Rat} {w : Nat} (hm : Wid w m) : Wid w (scaleM q m) := fun r hr => by
  obtain ⟨r', hr', rfl⟩ := List.mem_map.mp hr
  rw [List.length_map]; exact hm r' hr'
theorem scale_len (q : Rat) (m : List (List Rat)) : (scaleM q m).length = m.length := List.length_map ..
/-- entries with one denominator: values at most 2^(19 h) -/
def DenOk (h D : Nat) : Prop := 0 < D ∧ 27720 ∣ D ∧ D ≤ 27720 * 12 ^ (h - 1)
def Cds (D N : Nat) (m : List (List Rat)) : Prop := ∀ r, r ∈ m → ∀ x, x ∈ r → CD D N x
def MatOk (h w : Nat) (m : List (List Rat)) : Prop := m.length = h ∧ Wid w m ∧ ∃ D, DenOk h D ∧ Cds D (2 ^ (19 * h) * D) m
theorem DenOk.le {h D : Nat} (x : DenOk h D) : D ≤ 2 ^ (15 + 4 * (h - 1)) := by
  refine Nat.le_trans x.2.2 ?_
  rw [Nat.pow_add, Nat.pow_mul]
  exact Nat.mul_le_mul (by decide) (Nat.pow_le_pow_left (by decide) _)
theorem cds_btm {h D : Nat} {m : List (List Rat)} (x : DenOk h D) (c : Cds D (2 ^ (19 * h) * D) m) : Btm (19 * h + (15 + 4 * (h - 1))) m := fun r hr y hy =>
  (c r hr y hy).bt x.1 (Nat.le_trans x.le (Nat.pow_le_pow_right (by decide) (by omega))) (by rw [Nat.pow_add]; exact Nat.mul_le_mul_left _ x.le)
theorem MatOk.btm {h w : Nat} {m : List (List Rat)} (x : MatOk h w m) : Btm (19 * h + (15 + 4 * (h - 1))) m := by
  obtain ⟨_, _, D, d, c⟩ := x
  exact cds_btm d c
/-! the reduced form, step by step -/
def unitOf (r : List Rat) (c : Nat) : List Rat := r.map (1 / gtR r c * ·)
def elimR (u r : List Rat) (c : Nat) : List Rat := mapR2 (fun x y => x - y) r (u.map (gtR r c * ·))
def fstNZ (rs : List (List Rat)) (c s : Nat) : Option Nat := (List.range' s (rs.length - s)).find? fun k => !decide (ent rs k c = 0)
def clrR (rs : List (List Rat)) (k0 c : Nat) : List (List Rat) := (List.range' 0 rs.length).map fun k => if k = k0 then unitOf (rowR rs k0) c else elimR (unitOf (rowR rs k0) c) (rowR rs k) c
def swapR (rs : List (List Rat)) (i j : Nat) : List (List Rat) := (rs.set i (rowR rs j)).set j (rowR rs i)
def redL : List Nat → List (List Rat) → List Nat → List (List Rat) × List Nat
  | [], rs, ps => (rs, ps)
  | c :: cs, rs, ps => match fstNZ rs c ps.length with
    | none => redL cs rs ps
    | some f => redL cs (clrR (swapR rs ps.length f) ps.length c) (ps ++ [c])
def redA (m : List (List Rat)) (w : Nat) : List (List Rat) × List Nat := redL (List.range' 0 w) m []
def redM (m : List (List Rat)) (w : Nat) : List (List Rat) := (redA m w).1.take (redA m w).2.length
def pivM (m : List (List Rat)) (w : Nat) : List Nat := (redA m w).2
def natsD (ps : List Nat) : List D := ps.map fun (k : Nat) => D.int (k : Int)
theorem fst_some {rs : List (List Rat)} {c s f : Nat} (h : fstNZ rs c s = some f) : s ≤ f ∧ f < rs.length ∧ ent rs f c ≠ 0 := by
  unfold fstNZ at h
  have h1 := List.find?_some h
  have h2 := List.mem_range'_1.mp (List.mem_of_find?_eq_some h)
  refine ⟨by omega, by omega, fun e => ?_⟩
  rw [decide_eq_true e] at h1; cases h1
theorem swap_len (rs : List (List Rat)) (i j : Nat) : (swapR rs i j).length = rs.length := by unfold swapR; rw [List.length_set, List.length_set]
theorem swap_row {rs : List (List Rat)} {i j k : Nat} (hi : i < rs.length) (hj : j < rs.length) (hk : k < rs.length) : rowR (swapR rs i j) k = if k = j then rowR rs i else if k = i then rowR rs j else rowR rs k := by
  unfold swapR
  unfold rowR
  by_cases e : k = j
  · subst e
    rw [if_pos rfl, List.getElem?_set_self (by rw [List.length_set]; exact hk)]; rfl
  · rw [if_neg e, List.getElem?_set_ne (Ne.symm e)]
    by_cases e2 : k = i
    · subst e2
      rw [if_pos rfl, List.getElem?_set_self hk]; rfl
    · rw [if_neg e2, List.getElem?_set_ne (Ne.symm e2)]
theorem mem_row {m : List (List Rat)} {r : List Rat} (h : r ∈ m) : ∃ k, k < m.length ∧ rowR m k = r := by
  obtain ⟨i, hi, rfl⟩ := List.getElem_of_mem h
  exact ⟨i, hi, by unfold rowR; rw [List.getElem?_eq_getElem hi]; rfl⟩
theorem swap_mem {rs : List (List Rat)} {i j : Nat} {r : List Rat} (hi : i < rs.length) (hj : j < rs.length) (h : r ∈ swapR rs i j) : r ∈ rs := by
  obtain ⟨k, hk, rfl⟩ := mem_row h
  rw [swap_len] at hk
  rw [swap_row hi hj hk]
  split
  · exact rowR_mem hi
  · split
    · exact rowR_mem hj
    · exact rowR_mem hk
theorem unit_len (r : List Rat) (c : Nat) : (unitOf r c).length = r.length := List.length_map ..
theorem elim_len {u r : List Rat} {c : Nat} (h : u.length = r.length) : (elimR u r c).length = r.length := mapR2_len _ _ (by rw [List.length_map, h])
theorem clr_len (rs : List (List Rat)) (k0 c : Nat) : (clrR rs k0 c).length = rs.length := by unfold clrR; rw [List.length_map, List.length_range']
theorem clr_wid {rs : List (List Rat)} {w k0 c : Nat} (h : Wid w rs) (h0 : k0 < rs.length) : Wid w (clrR rs k0 c) := fun r hr => by
  obtain ⟨k, hk, rfl⟩ := List.mem_map.mp hr
  have hk2 := (List.mem_range'_1.mp hk).2
  have l0 := h _ (rowR_mem h0)
  have lk := h _ (rowR_mem (m := rs) (i := k) (by omega))
  show (if k = k0 then _ else _ : List Rat).length = w
  split
  · rw [unit_len, l0]
  · rw [elim_len (by rw [unit_len, l0, lk]), lk]
theorem swap_wid {rs : List (List Rat)} {w i j : Nat} (h : Wid w rs) (hi : i < rs.length) (hj : j < rs.length) : Wid w (swapR rs i j) := fun r hr => h r (swap_mem hi hj hr)
/-- sizes: one denominator for all -/
def SzM (n : Nat) (rs : List (List Rat)) : Prop := ∃ D, 0 < D ∧ D ≤ 2 ^ n ∧ Cds D (2 ^ n) rs
theorem SzM.btm {n : Nat} {rs : List (List Rat)} (h : SzM n rs) : Btm n rs := fun r hr x hx => by
  obtain ⟨D, h0, h1, h2⟩ := h
  exact (h2 r hr x hx).bt h0 h1 (Nat.le_refl _)
theorem SzM.sub {n : Nat} {rs rs2 : List (List Rat)} (h : SzM n rs) (s : ∀ r, r ∈ rs2 → r ∈ rs) : SzM n rs2 := by
  obtain ⟨D, h0, h1, h2⟩ := h
  exact ⟨D, h0, h1, fun r hr => h2 r (s r hr)⟩
/-- a row divided by one of its numbers -/
theorem unit_cd {r : List Rat} {c D N : Nat} (hD : 0 < D) (hc : c < r.length) (h : ∀ x, x ∈ r → CD D N x) (h0 : gtR r c ≠ 0) : ∃ P : Nat, 0 < P ∧ P ≤ N ∧ ∀ x, x ∈ unitOf r c → CD P N x := by
  obtain ⟨ip, e, l⟩ := h _ (gtR_mem hc).1
  have hip : ip ≠ 0 := fun z => by
    subst z
    obtain ⟨j, e3, _⟩ : ∃ j : Int, gtR r c * (D : Rat) = 0 ∧ j = 0 := ⟨0, by rw [e]; rfl, rfl⟩
    rcases Rat.mul_eq_zero.mp e3 with h | h
    · exact h0 h
    · have h2 : ((D : Nat) : Rat) = ((0 : Nat) : Rat) := h
      have := Rat.natCast_inj.mp h2
      omega
  have hu : ∀ z, z ∈ unitOf r c → ∃ i : Int, z * (ip : Rat) = i ∧ i.natAbs ≤ N := fun z hz => by
    obtain ⟨x, hx, rfl⟩ := List.mem_map.mp hz
    obtain ⟨i, e2, l2⟩ := h x hx
    refine ⟨i, ?_, l2⟩
    rw [← e, ← e2]
    generalize gtR r c = y at h0
    grind
  refine ⟨ip.natAbs, by omega, l, fun x hx => ?_⟩
  obtain ⟨i, e2, l2⟩ := hu x hx
  rcases Int.natAbs_eq ip with h1 | h1
  · refine ⟨i, ?_, l2⟩
    rw [← e2]
    have : ((ip.natAbs : Nat) : Rat) = ((ip.natAbs : Int) : Rat) := rfl
    rw [this, ← h1]
  · refine ⟨-i, ?_, by rw [Int.natAbs_neg]; exact l2⟩
    rw [Rat.intCast_neg, ← e2]
    have : ((ip.natAbs : Nat) : Rat) = ((ip.natAbs : Int) : Rat) := rfl
    have h3 : (ip.natAbs : Int) = -ip := by omega
    rw [this, h3, Rat.intCast_neg]; grind
/-- one step: sizes -/
theorem clr_sz {rs : List (List Rat)} {n w k0 c : Nat} (hw : Wid w rs) (h0 : k0 < rs.length) (hc : c < w) (hz : ent rs k0 c ≠ 0) (h : SzM n rs) : SzM (2 * n + 1) (clrR rs k0 c) ∧ Bts (2 * n) (unitOf (rowR rs k0) c) ∧ ∀ r, r ∈ rs → Bts (2 * n) ((unitOf (rowR rs k0) c).map (gtR r c * ·)) := by
  obtain ⟨D, hD, hD2, hC⟩ := h
  have m0 := rowR_mem h0
  have l0 := hw _ m0
  obtain ⟨P, p0, p1, hu⟩ := unit_cd (r := rowR rs k0) (c := c) hD (by omega) (hC _ m0) hz
  have e2n : 2 ^ (2 * n) = 2 ^ n * 2 ^ n := by rw [Nat.two_mul, Nat.pow_add]
  have cu : ∀ x, x ∈ unitOf (rowR rs k0) c → CD (D * P) (2 ^ (2 * n)) x := fun x hx => by
    have := (hu x hx).mulD D
    rw [Nat.mul_comm P D] at this
    exact this.mono (by rw [e2n]; exact Nat.mul_le_mul_left _ hD2)
  have hDP : 0 < D * P := Nat.mul_pos hD p0
  have hDP2 : D * P ≤ 2 ^ (2 * n) := by rw [e2n]; exact Nat.mul_le_mul hD2 p1
  have cp : ∀ r, r ∈ rs → ∀ x, x ∈ unitOf (rowR rs k0) c → CD (D * P) (2 ^ (2 * n)) (gtR r c * x) := fun r hr x hx => by
    have := (hC r hr _ (gtR_mem (k := c) (by rw [hw r hr]; exact hc)).1).mul (hu x hx)
    rw [← e2n] at this; exact this
  refine ⟨⟨D * P, hDP, Nat.le_trans hDP2 (Nat.pow_le_pow_right (by decide) (by omega)), fun r hr x hx => ?_⟩, fun x hx => (cu x hx).bt hDP hDP2 (Nat.le_refl _), fun r hr x hx => by
    obtain ⟨y, hy, rfl⟩ := List.mem_map.mp hx
    exact (cp r hr y hy).bt hDP hDP2 (Nat.le_refl _)⟩
  obtain ⟨k, hk, rfl⟩ := List.mem_map.mp hr
  have hk2 := (List.mem_range'_1.mp hk).2
  have mk := rowR_mem (m := rs) (i := k) (by omega)
  by_cases e : k = k0
  · rw [if_pos e] at hx
    exact (cu x hx).mono (Nat.pow_le_pow_right (by decide) (by omega))
  · rw [if_neg e] at hx
    obtain ⟨j, hj, rfl⟩ := List.getElem_of_mem hx
    have lk := hw _ mk
    have lu : (unitOf (rowR rs k0) c).length = w := by rw [unit_len, l0]
    have hj2 : j < w := by rw [elim_len (by rw [lu, lk])] at hj; omega
    have g1 := gtR_some (xs := rowR rs k) (k := j) (by omega)
    have g2 := gtR_some (xs := (unitOf (rowR rs k0) c).map (gtR (rowR rs k) c * ·)) (k := j) (by rw [List.length_map, lu]; exact hj2)
    have g3 := mapR2_get (f := fun x y => x - y) g1 g2
    have e3 : (elimR (unitOf (rowR rs k0) c) (rowR rs k) c)[j] = gtR (rowR rs k) j - gtR ((unitOf (rowR rs k0) c).map (gtR (rowR rs k) c * ·)) j := by
      rw [List.getElem_eq_iff]; exact g3
    rw [e3]
    have m2 := (gtR_mem (xs := (unitOf (rowR rs k0) c).map (gtR (rowR rs k) c * ·)) (k := j) (by rw [List.length_map, lu]; exact hj2)).1
    obtain ⟨y, hy, ey⟩ := List.mem_map.mp m2
    rw [← ey]
    have c1 := ((hC _ mk _ (gtR_mem (k := j) (by omega)).1).mulD P).mono (show 2 ^ n * P ≤ 2 ^ (2 * n) by rw [e2n]; exact Nat.mul_le_mul_left _ p1)
    refine (c1.sub (cp _ mk y hy)).mono ?_
    rw [Nat.pow_succ]; omega
theorem rngD_from {s l : Nat} (h : s ≤ l) : rngD (s : Int) (l : Int) = (List.range' s (l - s)).map fun (k : Nat) => D.int (k : Int) := by
  unfold rngD
  have e : ((l : Int) - s).toNat = l - s := by omega
  rw [e, List.range'_eq_map_range (s := s), List.map_map]
  exact List.map_congr_left fun k _ => by
    show D.int ((s : Int) + (k : Int)) = D.int ((s + k : Nat) : Int)
    congr 1
theorem mat_at' {g : List Rat → D} {rs : List (List Rat)} {k : Nat} (h : k < rs.length) : atI (rs.map g) (k : Int) = some (g (rowR rs k)) := (rows_gt h).2
theorem ne0_flag {q : Rat} {t : Bool} (ht : t = true ↔ D.int q.num ≠ D.int 0) : t = !decide (q = 0) := by
  by_cases e : q = 0
  · rw [decide_eq_true e]
    cases t with
    | true => exact absurd (by rw [e]; rfl) (ht.mp rfl)
    | false => rfl
  · rw [decide_eq_false e]
    exact ht.mpr fun z => e (q_num0.mp (by injection z))
theorem eq0_flag {q : Rat} {t : Bool} (ht : t = true ↔ D.int q.num = D.int 0) : t = decide (q = 0) := by
  by_cases e : q = 0
  · rw [decide_eq_true e]; exact ht.mpr (by rw [e]; rfl)
  · rw [decide_eq_false e]
    cases t with
    | true => exact absurd (q_num0.mp (by have := ht.mp rfl; injection this)) e
    | false => rfl
theorem cut_take {xs : List D} {k : Nat} (h : k ≤ xs.length) : cutD xs none (some (k : Int)) = xs.take k := by
  unfold cutD
  rw [HT.sIx_none, HT.sIx_nat, List.drop_zero, Nat.sub_zero, Nat.min_eq_left h]
theorem swap_lead {rs : List (List Rat)} {i j : Nat} (hi : i < rs.length) (hj : j < rs.length) : rowR (swapR rs i j) i = rowR rs j := by
  rw [swap_row hi hj hi]
  by_cases e : i = j
  · rw [if_pos e, e]
  · rw [if_neg e, if_pos rfl]
theorem red_none {c : Nat} {cs : List Nat} {rs : List (List Rat)} {ps : List Nat} (h : fstNZ rs c ps.length = none) : redL (c :: cs) rs ps = redL cs rs ps := by
  show (match fstNZ rs c ps.length with | none => _ | some f => _) = _
  rw [h]
theorem red_some {c f : Nat} {cs : List Nat} {rs : List (List Rat)} {ps : List Nat} (h : fstNZ rs c ps.length = some f) : redL (c :: cs) rs ps = redL cs (clrR (swapR rs ps.length f) ps.length c) (ps ++ [c]) := by
  show (match fstNZ rs c ps.length with | none => _ | some f => _) = _
  rw [h]
theorem ixN_nat {n k : Nat} (h : k < n) : ixN n (k : Int) = some k := by
  unfold ixN; rw [if_pos (by omega), if_pos (by omega)]; simp
theorem nats_app (ps : List Nat) (c : Nat) : natsD ps ++ [.int (c : Int)] = natsD (ps ++ [c]) := by unfold natsD; rw [List.map_append]; rfl
theorem nats_len (ps : List Nat) : (natsD ps).length = ps.length := List.length_map ..
theorem set_vec (rs : List (List Rat)) (i : Nat) (r : List Rat) (g : List Rat → D) : (rs.map g).set i (g r) = (rs.set i r).map g := by rw [List.map_set]
/-- the room a matrix has for its steps -/
def Fits (n l : Nat) : Prop := (n + 1) * 2 ^ l ≤ 16000001
theorem Fits.two {n l : Nat} (h : Fits n (l + 1)) : 2 * n ≤ 16000000 := by
  have : 2 ≤ 2 ^ (l + 1) := by rw [Nat.pow_succ]; have := Nat.one_le_two_pow (n := l); omega
  have h2 := Nat.le_trans (Nat.mul_le_mul_left (n + 1) this) h
  omega
theorem Fits.next {n l : Nat} (h : Fits n (l + 1)) : Fits (2 * n + 1) l := by
  unfold Fits at h ⊢
  rw [Nat.pow_succ, Nat.mul_comm (2 ^ l) 2, ← Nat.mul_assoc] at h
  rw [show 2 * n + 1 + 1 = (n + 1) * 2 by omega]; exact h
theorem red_keeps {w : Nat} : ∀ (cs : List Nat) (rs : List (List Rat)) (ps : List Nat), Wid w rs → ps.length ≤ rs.length → (redL cs rs ps).1.length = rs.length ∧ Wid w (redL cs rs ps).1 ∧ (redL cs rs ps).2.length ≤ rs.length
  | [], rs, ps, hW, hp => ⟨rfl, hW, hp⟩
  | c :: cs, rs, ps, hW, hp => by
    cases hf : fstNZ rs c ps.length with
    | none => rw [red_none hf]; exact red_keeps cs rs ps hW hp
    | some f =>
      obtain ⟨f1, f2, f3⟩ := fst_some hf
      rw [red_some hf]
      have hat : ps.length < rs.length := by omega
      have lsw := swap_len rs ps.length f
      have lcl := clr_len (swapR rs ps.length f) ps.length c
      obtain ⟨h1, h2, h3⟩ := red_keeps cs (clrR (swapR rs ps.length f) ps.length c) (ps ++ [c]) (clr_wid (swap_wid hW hat f2) (by omega)) (by rw [List.length_append, List.length_singleton]; omega)
      exact ⟨by omega, h2, by omega⟩
theorem redM_len {m : List (List Rat)} {w : Nat} (hW : Wid w m) (h1 : m.length ≤ 1000000) (h2 : w ≤ 1000000) : Len (redM m w) := by
  obtain ⟨l1, l2, l3⟩ := red_keeps (List.range' 0 w) m [] hW (Nat.zero_le _)
  refine ⟨?_, fun r hr => ?_⟩
  · show ((redL _ m []).1.take _).length ≤ _
    rw [List.length_take]; omega
  · have : r ∈ (redL (List.range' 0 w) m []).1 := List.mem_of_mem_take hr
    rw [l2 r this]; exact h2
/-- one step whose numbers have room -/
structure StepOk (S : List (List Rat)) (k0 c : Nat) : Prop where
  sm : ∀ r, r ∈ S → ∀ x, x ∈ r → Sm x
  inv : Sm (1 / gtR (rowR S k0) c)
  unit : ∀ x, x ∈ unitOf (rowR S k0) c → Sm x
  prod : ∀ r, r ∈ S → ∀ x, x ∈ (unitOf (rowR S k0) c).map (gtR r c * ·) → Sm x
def RedOk : List Nat → List (List Rat) → List Nat → Prop
  | [], _, _ => True
  | c :: cs, rs, ps => match fstNZ rs c ps.length with
    | none => RedOk cs rs ps
    | some f => StepOk (swapR rs ps.length f) ps.length c ∧ RedOk cs (clrR (swapR rs ps.length f) ps.length c) (ps ++ [c])
theorem RedOk.none {c : Nat} {cs : List Nat} {rs : List (List Rat)} {ps : List Nat} (h : RedOk (c :: cs) rs ps) (hf : fstNZ rs c ps.length = Option.none) : RedOk cs rs ps := by
  have h2 : (match fstNZ rs c ps.length with | Option.none => RedOk cs rs ps | some f => StepOk (swapR rs ps.length f) ps.length c ∧ RedOk cs (clrR (swapR rs ps.length f) ps.length c) (ps ++ [c])) := h
  rw [hf] at h2; exact h2
theorem RedOk.some {c f : Nat} {cs : List Nat} {rs : List (List Rat)} {ps : List Nat} (h : RedOk (c :: cs) rs ps) (hf : fstNZ rs c ps.length = Option.some f) : StepOk (swapR rs ps.length f) ps.length c ∧ RedOk cs (clrR (swapR rs ps.length f) ps.length c) (ps ++ [c]) := by
  have h2 : (match fstNZ rs c ps.length with | Option.none => RedOk cs rs ps | Option.some f => StepOk (swapR rs ps.length f) ps.length c ∧ RedOk cs (clrR (swapR rs ps.length f) ps.length c) (ps ++ [c])) := h
  rw [hf] at h2; exact h2
theorem redok_none {c : Nat} {cs : List Nat} {rs : List (List Rat)} {ps : List Nat} (hf : fstNZ rs c ps.length = none) (h : RedOk cs rs ps) : RedOk (c :: cs) rs ps := by
  show (match fstNZ rs c ps.length with | Option.none => RedOk cs rs ps | some f => StepOk (swapR rs ps.length f) ps.length c ∧ RedOk cs (clrR (swapR rs ps.length f) ps.length c) (ps ++ [c]))
  rw [hf]; exact h
theorem redok_some {c f : Nat} {cs : List Nat} {rs : List (List Rat)} {ps : List Nat} (hf : fstNZ rs c ps.length = some f) (h1 : StepOk (swapR rs ps.length f) ps.length c) (h2 : RedOk cs (clrR (swapR rs ps.length f) ps.length c) (ps ++ [c])) : RedOk (c :: cs) rs ps := by
  show (match fstNZ rs c ps.length with | Option.none => RedOk cs rs ps | some f => StepOk (swapR rs ps.length f) ps.length c ∧ RedOk cs (clrR (swapR rs ps.length f) ps.length c) (ps ++ [c]))
  rw [hf]; exact ⟨h1, h2⟩
theorem stepOk_sz {S : List (List Rat)} {n w k0 c : Nat} (hw : Wid w S) (h0 : k0 < S.length) (hc : c < w) (hz : ent S k0 c ≠ 0) (h : SzM n S) (hn : 2 * n ≤ 16000000) : StepOk S k0 c := by
  obtain ⟨_, bu, bp⟩ := clr_sz hw h0 hc hz h
  have hb := h.btm
  have m0 := rowR_mem h0
  have b1 : Bt n (1 / gtR (rowR S k0) c) := by
    have := bt_over (n := 0) (m := n) (bt_int (n := 0) (i := 1) (by decide)) (hb _ m0 _ (gtR_mem (k := c) (by rw [hw _ m0]; exact hc)).1)
    rw [show ((1 : Int) : Rat) = 1 by grind, Nat.zero_add] at this; exact this
  exact ⟨fun r hr x hx => (hb r hr x hx).smW (by omega), b1.smW (by omega), fun x hx => (bu x hx).smW hn, fun r hr x hx => (bp r hr x hx).smW hn⟩
theorem redok_sz {w : Nat} : ∀ (cs : List Nat) (rs : List (List Rat)) (ps : List Nat) (n : Nat), (∀ c, c ∈ cs → c < w) → Wid w rs → ps.length ≤ rs.length → SzM n rs → Fits n (rs.length - ps.length) → RedOk cs rs ps
  | [], _, _, _, _, _, _, _, _ => trivial
  | c :: cs, rs, ps, n, hcs, hW, hp, hS, hF => by
    have hc := hcs c List.mem_cons_self
    have hcs2 : ∀ c, c ∈ cs → c < w := fun x hx => hcs x (List.mem_cons_of_mem _ hx)
    cases hf : fstNZ rs c ps.length with
    | none => exact redok_none hf (redok_sz cs rs ps n hcs2 hW hp hS hF)
    | some f =>
      obtain ⟨f1, f2, f3⟩ := fst_some hf
      have hat : ps.length < rs.length := by omega
      obtain ⟨l, hl2⟩ : ∃ l, rs.length - ps.length = l + 1 := ⟨rs.length - ps.length - 1, by omega⟩
      rw [hl2] at hF
      have hS2 : SzM n (swapR rs ps.length f) := hS.sub fun r hr => swap_mem hat f2 hr
      have hW2 := swap_wid hW hat f2
      have lsw := swap_len rs ps.length f
      have lcl := clr_len (swapR rs ps.length f) ps.length c
      have hz : ent (swapR rs ps.length f) ps.length c ≠ 0 := by unfold ent; rw [swap_lead hat f2]; exact f3
      obtain ⟨k1, _, _⟩ := clr_sz hW2 (by omega) hc hz hS2
      exact redok_some hf (stepOk_sz hW2 (by omega) hc hz hS2 hF.two) (redok_sz cs _ _ (2 * n + 1) hcs2 (clr_wid hW2 (by omega)) (by rw [List.length_append, List.length_singleton]; omega) k1 (by rw [List.length_append, List.length_singleton, lcl, lsw, show rs.length - (ps.length + 1) = l by omega]; exact hF.next))
theorem redok_of {w n : Nat} {m : List (List Rat)} (hW : Wid w m) (hS : SzM n m) (hF : Fits n m.length) : RedOk (List.range' 0 w) m [] :=
  redok_sz _ m [] n (fun c hc => by have := (List.mem_range'_1.mp hc).2; omega) hW (Nat.zero_le _) hS hF
theorem mem_swap {rs : List (List Rat)} {i j : Nat} {r : List Rat} (hi : i < rs.length) (hj : j < rs.length) (h : r ∈ rs) : r ∈ swapR rs i j := by
  obtain ⟨k, hk, rfl⟩ := mem_row h
  have row : ∀ k2, k2 < rs.length → rowR (swapR rs i j) k2 ∈ swapR rs i j := fun k2 h2 => rowR_mem (by rw [swap_len]; exact h2)
  by_cases e1 : k = i
  · have := row j hj
    rw [swap_row hi hj hj, if_pos rfl] at this
    rw [e1]; exact this
  · by_cases e2 : k = j
    · have := row i hi
      rw [swap_lead hi hj] at this
      rw [e2]; exact this
    · have := row k hk
      rw [swap_row hi hj hk, if_neg e2, if_neg e1] at this; exact this
def SzV (n : Nat) (v : List Rat) : Prop := ∃ B, 0 < B ∧ B ≤ 2 ^ n ∧ ∀ y, y ∈ v → CD B (2 ^ n) y
theorem SzM.row {n : Nat} {m : List (List Rat)} {r : List Rat} (h : SzM n m) (hr : r ∈ m) : SzV n r := let ⟨B, h0, h1, h2⟩ := h; ⟨B, h0, h1, h2 r hr⟩
theorem upSm {k : Nat} (hk : k ≤ 16000000) : 2 ^ k ≤ 2 ^ 16000000 := Nat.pow_le_pow_right (by decide) hk
theorem dotOk_of {xs ys : List Rat} {n1 n2 : Nat} (hl : xs.length = ys.length) (h6 : xs.length ≤ 6) (h1 : SzV n1 xs) (h2 : SzV n2 ys) (hn : n1 + n2 + 3 ≤ 16000000) : ∃ B1 B2, DotOk xs ys B1 (2 ^ n1) B2 (2 ^ n2) ∧ B1 * B2 ≤ 2 ^ (n1 + n2) := by
  obtain ⟨B1, p1, b1, c1⟩ := h1
  obtain ⟨B2, p2, b2, c2⟩ := h2
  have bb : B1 * B2 ≤ 2 ^ (n1 + n2) := by rw [Nat.pow_add]; exact Nat.mul_le_mul b1 b2
  have e3 : 2 ^ 3 * (2 ^ n1 * 2 ^ n2) ≤ 2 ^ 16000000 := by
    rw [← Nat.pow_add, ← Nat.pow_add]; exact upSm (by omega)
  exact ⟨B1, B2, ⟨hl, by omega, p1, p2, c1, c2, Nat.le_trans b1 (upSm (by omega)), Nat.le_trans b2 (upSm (by omega)), upSm (by omega), upSm (by omega), Nat.le_trans bb (upSm (by omega)), Nat.le_trans (Nat.mul_le_mul_right _ (show xs.length + 1 ≤ 2 ^ 3 by show _ ≤ 8; omega)) e3⟩, bb⟩
theorem cd_dot2 {B1 N1 B2 N2 : Nat} : ∀ (xs ys : List Rat), (∀ x, x ∈ xs → CD B1 N1 x) → (∀ y, y ∈ ys → CD B2 N2 y) → CD (B1 * B2) (xs.length * (N1 * N2)) (dotR xs ys)
  | [], _, _, _ => cd_zero
  | _ :: _, [], _, _ => cd_zero
  | x :: xs, y :: ys, h1, h2 => by
    have a := (h1 x List.mem_cons_self).mul (h2 y List.mem_cons_self)
    have b := cd_dot2 xs ys (fun z hz => h1 z (List.mem_cons_of_mem _ hz)) fun z hz => h2 z (List.mem_cons_of_mem _ hz)
    refine (a.add b).mono ?_
    rw [List.length_cons, Nat.add_mul, Nat.one_mul, Nat.add_comm]; exact Nat.le_refl _
theorem trans_sz {n w : Nat} {m : List (List Rat)} (hW : Wid w m) (h : SzM n m) : SzM n (transR m w) := by
  obtain ⟨B, h0, h1, h2⟩ := h
  refine ⟨B, h0, h1, fun r hr x hx => ?_⟩
  obtain ⟨j, hj, rfl⟩ := List.mem_map.mp hr
  obtain ⟨row, hrow, rfl⟩ := List.mem_map.mp hx
  have := (List.mem_range'_1.mp hj).2
  exact h2 row hrow _ (gtR_mem (by rw [hW row hrow]; omega)).1
theorem prod_sz {n1 n2 w : Nat} {a b : List (List Rat)} (ha : Wid b.length a) (hb : Wid w b) (h1 : SzM n1 a) (h2 : SzM n2 b) (hl : b.length ≤ 6) : SzM (n1 + n2 + 3) (prodR a b w) := by
  obtain ⟨B1, p1, b1, c1⟩ := h1
  obtain ⟨B2, p2, b2, c2⟩ := trans_sz hb h2
  have e3 : 2 ^ 3 * (2 ^ n2 * 2 ^ n1) = 2 ^ (n1 + n2 + 3) := by rw [← Nat.pow_add, ← Nat.pow_add]; congr 1; omega
  refine ⟨B2 * B1, Nat.mul_pos p2 p1, ?_, fun r hr x hx => ?_⟩
  · refine Nat.le_trans (Nat.mul_le_mul b2 b1) ?_
    rw [← Nat.pow_add]; exact Nat.pow_le_pow_right (by decide) (by omega)
  · obtain ⟨row, hrow, rfl⟩ := List.mem_map.mp hr
    obtain ⟨col, hcol, rfl⟩ := List.mem_map.mp hx
    refine (cd_dot2 col row (c2 col hcol) (c1 row hrow)).mono ?_
    have lc : col.length = b.length := by have := trans_wid' b w col hcol; exact this
    rw [← e3]
    exact Nat.mul_le_mul_right _ (show col.length ≤ 8 by omega)
theorem dot_comm2 : ∀ (x y : List Rat), dotR x y = dotR y x
  | [], [] => rfl
  | [], _ :: _ => rfl
  | _ :: _, [] => rfl
  | a :: x, b :: y => by
    show a * b + dotR x y = b * a + dotR y x
    rw [dot_comm2 x y, Rat.mul_comm]
def sp_dot_w : DSp := fun ds M Q _ => ∃ (xs ys : List Rat) (B1 N1 B2 N2 : Nat), ds = [vecD xs, vecD ys] ∧ DotOk xs ys B1 N1 B2 N2 ∧ Q (.rat (dotR xs ys)) M
def w_dot_w : DSt :=
  (dSeq (dSet 2 (dMk (dCons (dC (.int 0)) dNil)))
  (dSeq (dFor (dZip (dCons (dVar 0) (dCons (dVar 1) dNil))) (gTu 2 (gsCons (gNm 3) (gsCons (gNm 4) gsNil)))
  (dSet 2 (dOp rAdd (dVar 2) (dOp rMul (dVar 3) (dVar 4)))))
  (dRet (dVar 2))))
theorem dotw_loop {De : DEnds} {a b : D} {B1 N1 B2 N2 L : Nat} (p1 : 0 < B1) (p2 : 0 < B2) (b1 : B1 ≤ 2 ^ 16000000) (b2 : B2 ≤ 2 ^ 16000000) (n1 : N1 ≤ 2 ^ 16000000) (n2 : N2 ≤ 2 ^ 16000000) (bb : B1 * B2 ≤ 2 ^ 16000000) (nn : (L + 1) * (N1 * N2) ≤ 2 ^ 16000000) : ∀ (xs ys : List Rat) (t : Rat) (j : Nat) (a3 a4 : Option D) (M : Mem), xs.length = ys.length → (∀ x, x ∈ xs → CD B1 N1 x) → (∀ y, y ∈ ys → CD B2 N2 y) → CD (B1 * B2) (j * (N1 * N2)) t → j + xs.length ≤ L →
    (∀ a3 a4, De.nx [some a, some b, some (.rat (t + dotR xs ys)), a3, a4] M) →
    dLoop always (gTu 2 (gsCons (gNm 3) (gsCons (gNm 4) gsNil))) (dSet 2 (dOp rAdd (dVar 2) (dOp rMul (dVar 3) (dVar 4)))) (pairsD (ratsD xs) (ratsD ys)) De [some a, some b, some (.rat t), a3, a4] M
  | [], ys, t, j, a3, a4, M, _, _, _, _, _, h => ⟨trivial, by simpa [dotR, Rat.add_zero] using h a3 a4⟩
  | x :: xs, [], t, j, a3, a4, M, hl, _, _, _, _, h => by cases hl
  | x :: xs, y :: ys, t, j, a3, a4, M, hl, hx, hy, ht, hj, h => by
    have c1 := hx x List.mem_cons_self
    have c2 := hy y List.mem_cons_self
    have cp := c1.mul c2
    rw [List.length_cons] at hj
    have le1 : ∀ z, z ≤ L + 1 → z * (N1 * N2) ≤ 2 ^ 16000000 := fun z hz => Nat.le_trans (Nat.mul_le_mul_right _ hz) nn
    have hp : 0 < B1 * B2 := Nat.mul_pos p1 p2
    have s1 : Sm x := c1.bt p1 b1 n1
    have s2 : Sm y := c2.bt p2 b2 n2
    have sp : Sm (x * y) := cp.bt hp bb (by have := le1 1 (by omega); rw [Nat.one_mul] at this; exact this)
    have st : Sm t := ht.bt hp bb (le1 j (by omega))
    refine ⟨trivial, _, rfl, rfl, _, _, rfl, _, _, rfl, rfl, ?_⟩
    refine ⟨_, rfl, _, rfl, _, rfl, s1, s2, st, sp, ?_⟩
    refine dotw_loop p1 p2 b1 b2 n1 n2 bb nn xs ys (t + x * y) (j + 1) _ _ M (by simpa using hl) (fun z hz => hx z (List.mem_cons_of_mem _ hz)) (fun z hz => hy z (List.mem_cons_of_mem _ hz)) ((ht.add cp).mono (by rw [Nat.add_mul, Nat.one_mul]; exact Nat.le_refl _)) (by omega) fun a3 a4 => ?_
    rw [Rat.add_assoc]
    exact h a3 a4
theorem rd_dot_w (ds M Q E) (h : sp_dot_w ds M Q E) : w_dot_w { nx := fun _ M' => Q .non M', rt := Q } (startD 5 ds) M := by
  obtain ⟨xs, ys, B1, N1, B2, N2, rfl, ok, hq⟩ := h
  have e0 : ((0 : Int) : Rat) = 0 := by grind
  refine ⟨_, rfl, _, rfl, ratsD xs, ratsD ys, .inl rfl, ?_⟩
  refine dotw_loop ok.p1 ok.p2 ok.b1 ok.b2 ok.n1 ok.n2 ok.bb ok.nn xs ys _ 0 none none M ok.len ok.c1 ok.c2 (by rw [e0]; exact cd_zero) (by omega) fun a3 a4 => ⟨_, rfl, ?_⟩
  have e : ((0 : Int) : Rat) + dotR xs ys = dotR xs ys := by grind
  rw [e]
  exact hq
def sp_apply_w : DSp := fun ds M Q _ => ∃ (m : List (List Rat)) (v : List Rat) (n1 n2 : Nat), ds = [matD m, vecD v] ∧ Wid v.length m ∧ SzM n1 m ∧ SzV n2 v ∧ n1 + n2 + 3 ≤ 16000000 ∧ v.length ≤ 6 ∧ m.length ≤ 6 ∧ Q (vecD (applyR m v)) M
def w_apply_w : DSt :=
  (dRet (dCB rTupOf (dCons (dLc (dIt (dVar 0)) (gNm 2) dYes (dCall sp_dot_w (dCons (dVar 2) (dCons (dVar 1) dNil))) [2]) dNil)))
theorem rd_apply_w (ds M Q E) (h : sp_apply_w ds M Q E) : w_apply_w { nx := fun _ M' => Q .non M', rt := Q } (startD 3 ds) M := by
  obtain ⟨m, v, n1, n2, rfl, hw, hm, hv, hn, l1, l2, hq⟩ := h
  refine ⟨_, rfl, ?_⟩
  refine lc_of vecD (fun r => .rat (dotR r v)) (fun r => r ∈ m) (fun r M' K hr k => ?_) m [] M (fun r h => h) (by rw [List.length_nil]; exact sz16 (by omega)) (.inl ⟨_, rfl, ?_⟩)
  · have lr := hw r hr
    obtain ⟨B1, B2, ok, _⟩ := dotOk_of lr (by omega) (hm.row hr) hv hn
    exact ⟨_, rfl, _, rfl, r, v, _, _, _, _, rfl, ok, k⟩
  · have e : [] ++ m.map (fun r => D.rat (dotR r v)) = ratsD (applyR m v) := by unfold ratsD applyR; rw [List.nil_append, List.map_map]; rfl
    rw [e]
    exact hq
theorem cut_dropN {xs : List D} {k : Nat} (h : k ≤ xs.length) : cutD xs (some (k : Int)) none = xs.drop k := by
  unfold cutD
  rw [HT.sIx_none, HT.sIx_nat, Nat.min_eq_left h]
  exact List.take_of_length_le (by rw [List.length_drop]; exact Nat.le_refl _)
theorem lc_ofD {α : Type} {j : Nat} {chk : Mem → Prop} {te : DE} {δ : DS0} {M : Mem} {Q : List D → Mem → Prop} (g f : α → D) (P : α → Prop) (hc : chk M) (h : ∀ r (K : DK), P r → K (f r) M → te (δ.set j (some (g r))) M K) :
    ∀ (m : List α) (acc : List D), (∀ r, r ∈ m → P r) → acc.length + m.length ≤ sizeLine → Q (acc ++ m.map f) M → dLcL chk (gNm j) dYes te δ (m.map g) acc M Q
  | [], acc, _, _, q => ⟨hc, by simpa using q⟩
  | r :: m, acc, hp, hl, q => by
    refine ⟨hc, by rw [List.length_cons] at hl; omega, ?_⟩
    refine ite_t (B := dLcL chk (gNm j) dYes te δ (m.map g) acc M Q) (h r _ (hp r List.mem_cons_self) (lc_ofD g f P hc h m _ (fun y hy => hp y (List.mem_cons_of_mem _ hy)) ?_ ?_))
    · rw [List.length_append, List.length_singleton]; rw [List.length_cons] at hl; omega
    · rw [List.append_assoc]; exact q
/-! books: a plain form of them, and what a deed does -/
structure Rdg where
  name : Str
  terms : List (Str × Int)
  value : Rat
  weight : Rat
structure Bk where
  pts : List Str
  near : List Rat
  rds : List Rdg
def trmD (p : Str × Int) : D := .tup [.str p.1, .int p.2]
def trmsD (t : List (Str × Int)) : D := .tup (t.map trmD)
def rdgD (AD : Ad) (r : Rdg) : D := .obj AD.rd ["name", "terms", "value", "weight"] [.str r.name, trmsD r.terms, .rat r.value, .rat r.weight]
def rowD (r : Rdg) : D := .tup [.str r.name, trmsD r.terms, pairD r.value, pairD r.weight]
inductive Er
  | dup | badr | up | ur | lim
def Er.ad (AD : Ad) : Er → Addr
  | .dup => AD.dup
  | .badr => AD.badr
  | .up => AD.up
  | .ur => AD.ur
  | .lim => AD.lim
def Er.fl : Er → Str
  | .dup => "name"
  | .badr => "reason"
  | .up => "name"
  | .ur => "name"
  | .lim => "what"
def Er.wd : Er → Str
  | .dup => "duplicate"
  | .badr => "reading"
  | .up => "point"
  | .ur => "mark"
  | .lim => "limit"
inductive Dd
  | point (n : Str) (q : Rat)
  | reading (r : Rdg)
  | appr (n : Str) (q : Rat)
  | value (n : Str) (q : Rat)
  | weight (n : Str) (q : Rat)
  | withdraw (n : Str)
  | remove (n : Str)
def ddD : Dd → D
  | .point n q => .tup [.str "point", .str n, pairD q]
  | .reading r => .tup [.str "reading", .str r.name, trmsD r.terms, pairD r.value, pairD r.weight]
  | .appr n q => .tup [.str "approximation", .str n, pairD q]
  | .value n q => .tup [.str "value", .str n, pairD q]
  | .weight n q => .tup [.str "weight", .str n, pairD q]
  | .withdraw n => .tup [.str "withdraw", .str n]
  | .remove n => .tup [.str "remove", .str n]
abbrev ltS (a b : Str) : Bool := decide (a.cps.toList < b.cps.toList)
def fitG : Str → List (Str × Int) → Bool
  | _, [] => true
  | b, (n, c) :: t => !decide (c = 0) && (decide (-9 ≤ c) && (decide (c ≤ 9) && (ltS b n && fitG n t)))
def fits (t : List (Str × Int)) : Bool := fitG "" t && decide (0 < t.length)
def plc : List Rdg → Str → Option (Nat × Rdg)
  | [], _ => none
  | r :: l, n => if r.name = n then some (0, r) else (plc l n).map fun x => (x.1 + 1, x.2)
def unk (pts : List Str) : List (Str × Int) → Option Str
  | [] => none
  | (n, _) :: t => if n ∈ pts then unk pts t else some n
def used (n : Str) (l : List Rdg) : Bool := l.any fun r => decide (n ∈ r.terms.map Prod.fst)
abbrev Res := Except (Er × Str) Bk
def addP (b : Bk) (n : Str) (q : Rat) : Res := if n ∈ b.pts then .error (.dup, n) else if b.pts.length = 12 then .error (.lim, "points") else .ok ⟨b.pts ++ [n], b.near ++ [q], b.rds⟩
def addR (b : Bk) (r : Rdg) : Res := if r.name ∈ b.rds.map Rdg.name then .error (.dup, r.name) else if fits r.terms = true then
    match unk b.pts r.terms with
    | some n => .error (.up, n)
    | none => if r.weight.num ≤ 0 then .error (.badr, "weight") else if b.rds.length = 24 then .error (.lim, "readings") else .ok ⟨b.pts, b.near, b.rds ++ [r]⟩
  else .error (.badr, "terms")
def chA (b : Bk) (n : Str) (q : Rat) : Res := if n ∈ b.pts then .ok ⟨b.pts, setK b.pts b.near n q, b.rds⟩ else .error (.up, n)
def chV (b : Bk) (n : Str) (q : Rat) : Res := match plc b.rds n with
  | none => .error (.ur, n)
  | some (i, r) => .ok ⟨b.pts, b.near, b.rds.set i ⟨n, r.terms, q, r.weight⟩⟩
def chW (b : Bk) (n : Str) (q : Rat) : Res := match plc b.rds n with
  | none => .error (.ur, n)
  | some (i, r) => if q.num ≤ 0 then .error (.badr, "weight") else .ok ⟨b.pts, b.near, b.rds.set i ⟨n, r.terms, r.value, q⟩⟩
def wdr (b : Bk) (n : Str) : Res := match plc b.rds n with
  | none => .error (.ur, n)
  | some (i, _) => .ok ⟨b.pts, b.near, b.rds.eraseIdx i⟩
def rmP (b : Bk) (n : Str) : Res := if n ∈ b.pts then (if used n b.rds = true then .error (.badr, "used") else .ok ⟨delK b.pts b.pts n, delK b.pts b.near n, b.rds⟩) else .error (.up, n)
def stp (b : Bk) : Dd → Res
  | .point n q => addP b n q
  | .reading r => addR b r
  | .appr n q => chA b n q
  | .value n q => chV b n q
  | .weight n q => chW b n q
  | .withdraw n => wdr b n
  | .remove n => rmP b n
/-- a book that stands in the memory -/
structure BkAt (AD : Ad) (p a1 a2 a3 : Addr) (b : Bk) (M : Mem) : Prop where
  ins : M p = some (.ins AD.bk ["points", "approximations", "readings"] [.ref a1, .ref a2, .ref a3])
  pts : M a1 = some (.lst (b.pts.map D.str))
  near : M a2 = some (.dic b.pts (b.near.map D.rat))
  rds : M a3 = some (.lst (b.rds.map (rdgD AD)))
  ne : a1 ≠ a3
theorem BkAt.n12 {AD p a1 a2 a3 b M} (h : BkAt AD p a1 a2 a3 b M) : a1 ≠ a2 := fun e => by have := h.pts; rw [e, h.near] at this; cases this
theorem BkAt.n32 {AD p a1 a2 a3 b M} (h : BkAt AD p a1 a2 a3 b M) : a3 ≠ a2 := fun e => by have := h.rds; rw [e, h.near] at this; cases this
theorem BkAt.np1 {AD p a1 a2 a3 b M} (h : BkAt AD p a1 a2 a3 b M) : p ≠ a1 := fun e => by have := h.ins; rw [e, h.pts] at this; cases this
theorem BkAt.np2 {AD p a1 a2 a3 b M} (h : BkAt AD p a1 a2 a3 b M) : p ≠ a2 := fun e => by have := h.ins; rw [e, h.near] at this; cases this
theorem BkAt.np3 {AD p a1 a2 a3 b M} (h : BkAt AD p a1 a2 a3 b M) : p ≠ a3 := fun e => by have := h.ins; rw [e, h.rds] at this; cases this
abbrev SO (x : Str) : Prop := PyData.strOk x = true
structure RdgOk (r : Rdg) : Prop where
  nm : SO r.name
  tm : ∀ t, t ∈ r.terms → SO t.1
  few : r.terms.length ≤ 100
def DdOk : Dd → Prop
  | .point n _ => SO n
  | .reading r => RdgOk r
  | .appr n _ => SO n
  | .value n _ => SO n
  | .weight n _ => SO n
  | .withdraw n => SO n
  | .remove n => SO n
structure BkOk (b : Bk) : Prop where
  so : ∀ n, n ∈ b.pts → SO n
  ro : ∀ r, r ∈ b.rds → RdgOk r
  nd : b.pts.Nodup
  len : b.pts.length = b.near.length
  nm : (b.rds.map Rdg.name).Nodup
  few : b.pts.length ≤ 12
  fewR : b.rds.length ≤ 24
/-- but at three places all is as it was -/
def Of3 (a1 a2 a3 : Addr) (M M' : Mem) : Prop := ∀ a, a ≠ a1 → a ≠ a2 → a ≠ a3 → M' a = M a
/-- what a deed ends in -/
def After (AD : Ad) (p a1 a2 a3 : Addr) (r : Res) (M : Mem) (Q : DK) (Ex : DX) : Prop := match r with
  | .error (e, t) => Ex (e.ad AD) [e.fl] [.str t] M
  | .ok b' => ∀ M', BkAt AD p a1 a2 a3 b' M' → Of3 a1 a2 a3 M M' → Q .non M'
theorem BkAt.setP {AD p a1 a2 a3 b M} (h : BkAt AD p a1 a2 a3 b M) (pts : List Str) (near : List Rat) : BkAt AD p a1 a2 a3 ⟨pts, near, b.rds⟩ (mput (mput M a1 (.lst (pts.map D.str))) a2 (.dic pts (near.map D.rat))) ∧ Of3 a1 a2 a3 M (mput (mput M a1 (.lst (pts.map D.str))) a2 (.dic pts (near.map D.rat))) :=
  ⟨⟨by rw [mput_ne h.np2, mput_ne h.np1]; exact h.ins, by rw [mput_ne h.n12, mput_same], by rw [mput_same], by rw [mput_ne h.n32, mput_ne h.ne.symm]; exact h.rds, h.ne⟩, fun a n1 n2 _ => by rw [mput_ne n2, mput_ne n1]⟩
theorem BkAt.setN {AD p a1 a2 a3 b M} (h : BkAt AD p a1 a2 a3 b M) (near : List Rat) : BkAt AD p a1 a2 a3 ⟨b.pts, near, b.rds⟩ (mput M a2 (.dic b.pts (near.map D.rat))) ∧ Of3 a1 a2 a3 M (mput M a2 (.dic b.pts (near.map D.rat))) :=
  ⟨⟨by rw [mput_ne h.np2]; exact h.ins, by rw [mput_ne h.n12]; exact h.pts, by rw [mput_same], by rw [mput_ne h.n32]; exact h.rds, h.ne⟩, fun a n1 n2 _ => by rw [mput_ne n2]⟩
theorem BkAt.setR {AD p a1 a2 a3 b M} (h : BkAt AD p a1 a2 a3 b M) (rds : List Rdg) : BkAt AD p a1 a2 a3 ⟨b.pts, b.near, rds⟩ (mput M a3 (.lst (rds.map (rdgD AD)))) ∧ Of3 a1 a2 a3 M (mput M a3 (.lst (rds.map (rdgD AD)))) :=
  ⟨⟨by rw [mput_ne h.np3]; exact h.ins, by rw [mput_ne h.ne]; exact h.pts, by rw [mput_ne h.n32.symm]; exact h.near, by rw [mput_same], h.ne⟩, fun a n1 n2 n3 => by rw [mput_ne n3]⟩
/-! texts and numbers compared -/
theorem bool_iff {k : Bool} {P : Prop} [Decidable P] (h : k = true ↔ P) : k = decide P := by
  rw [Bool.eq_iff_iff, decide_eq_true_iff]; exact h
theorem str_inj {x y : Str} : (D.str x = D.str y) ↔ x = y := ⟨fun h => by injection h, fun h => by rw [h]⟩
section
variable {R : Bool → Prop}
theorem eS {x y : Str} (h : R (decide (x = y))) : ∀ k : Bool, (k = true ↔ D.str x = D.str y) → R k := fun k hk => by rw [bool_iff (hk.trans str_inj)]; exact h
theorem nS {x y : Str} (h : R (!decide (x = y))) : ∀ k : Bool, (k = true ↔ D.str x ≠ D.str y) → R k := fun k hk => by rw [bool_iff (hk.trans (not_congr str_inj)), decide_not]; exact h
theorem int_inj {x y : Int} : (D.int x = D.int y) ↔ x = y := ⟨fun h => by injection h, fun h => by rw [h]⟩
theorem eI {x y : Int} (h : R (decide (x = y))) : ∀ k : Bool, (k = true ↔ D.int x = D.int y) → R k := fun k hk => by rw [bool_iff (hk.trans int_inj)]; exact h
theorem nI {x y : Int} (h : R (!decide (x = y))) : ∀ k : Bool, (k = true ↔ D.int x ≠ D.int y) → R k := fun k hk => by rw [bool_iff (hk.trans (not_congr int_inj)), decide_not]; exact h
theorem pl_strs {n : Nat} : ∀ {xs : List Str}, (∀ x, x ∈ xs → SO x) → plDs (xs.map D.str) n = true
  | [], _ => rfl
  | x :: xs, h => by show (plD (.str x) n && plDs (xs.map D.str) n) = true; rw [pl_strs fun y hy => h y (List.mem_cons_of_mem _ hy), show plD (.str x) n = true from h x List.mem_cons_self]; rfl
theorem mem_strs {n : Str} {xs : List Str} : D.str n ∈ xs.map D.str ↔ n ∈ xs := by
  rw [List.mem_map]
  exact ⟨fun ⟨a, h, e⟩ => by rw [← str_inj.mp e]; exact h, fun h => ⟨n, h, rfl⟩⟩
theorem mS {n : Str} {xs : List Str} (h : R (decide (n ∈ xs))) : ∀ k : Bool, (k = true ↔ D.str n ∈ xs.map D.str) → R k := fun k hk => by rw [bool_iff (hk.trans mem_strs)]; exact h
theorem nmS {n : Str} {xs : List Str} (h : R (!decide (n ∈ xs))) : ∀ k : Bool, (k = true ↔ D.str n ∉ xs.map D.str) → R k := fun k hk => by rw [bool_iff (hk.trans (not_congr mem_strs)), decide_not]; exact h
end
/-! looking up -/
theorem getK_map {α β : Type} (f : α → β) (n : Str) : ∀ (ks : List Str) (xs : List α), getK ks (xs.map f) n = (getK ks xs n).map f
  | [], _ => rfl
  | k :: ks, [] => rfl
  | k :: ks, x :: xs => by
    show (if k = n then some (f x) else getK ks (xs.map f) n) = Option.map f (if k = n then some x else getK ks xs n)
    rw [getK_map f n ks xs]; split <;> rfl
theorem setK_map {α β : Type} (f : α → β) (n : Str) (y : α) : ∀ (ks : List Str) (xs : List α), setK ks (xs.map f) n (f y) = (setK ks xs n y).map f
  | [], _ => rfl
  | k :: ks, [] => rfl
  | k :: ks, x :: xs => by
    show (if k = n then f y else f x) :: setK ks (xs.map f) n (f y) = f (if k = n then y else x) :: (setK ks xs n y).map f
    rw [setK_map f n y ks xs]; split <;> rfl
theorem delK_map {α β : Type} (f : α → β) (n : Str) : ∀ (ks : List Str) (xs : List α), delK ks (xs.map f) n = (delK ks xs n).map f
  | [], _ => rfl
  | k :: ks, [] => rfl
  | k :: ks, x :: xs => by
    show (if k = n then delK ks (xs.map f) n else f x :: delK ks (xs.map f) n) = (if k = n then delK ks xs n else x :: delK ks xs n).map f
    rw [delK_map f n ks xs]; split <;> rfl
theorem delK_self (n : Str) : ∀ (ks : List Str), delK ks ks n = ks.filter fun k => !decide (k = n)
  | [] => rfl
  | k :: ks => by
    show (if k = n then delK ks ks n else k :: delK ks ks n) = _
    rw [List.filter_cons, delK_self n ks]
    by_cases h : k = n <;> simp [h]
theorem getK_none {α : Type} {n : Str} : ∀ {ks : List Str} {xs : List α}, n ∉ ks → getK ks xs n = none
  | [], _, _ => rfl
  | k :: ks, [], _ => rfl
  | k :: ks, x :: xs, h => by
    show (if k = n then some x else getK ks xs n) = none
    rw [if_neg (fun e : k = n => h (by rw [e]; exact List.mem_cons_self)), getK_none fun m => h (List.mem_cons_of_mem _ m)]
theorem getK_snoc {α : Type} {n j : Str} {y : α} : ∀ {ks : List Str} {xs : List α}, ks.length = xs.length → n ∉ ks → getK (ks ++ [n]) (xs ++ [y]) j = if n = j then some y else getK ks xs j
  | [], [], _, _ => rfl
  | k :: ks, x :: xs, h, hn => by
    show (if k = j then some x else getK (ks ++ [n]) (xs ++ [y]) j) = if n = j then some y else if k = j then some x else getK ks xs j
    rw [getK_snoc (by simpa using h) fun m => hn (List.mem_cons_of_mem _ m)]
    by_cases e : k = j
    · rw [if_pos e, if_pos e, if_neg fun e2 => hn (by rw [e2, ← e]; exact List.mem_cons_self)]
    · rw [if_neg e, if_neg e]
  | [], x :: xs, h, _ => by cases h
  | k :: ks, [], h, _ => by cases h
theorem getK_setK {α : Type} {n j : Str} {y z : α} : ∀ {ks : List Str} {xs : List α}, getK ks (setK ks xs n y) j = some z → (j = n ∧ z = y) ∨ (j ≠ n ∧ getK ks xs j = some z)
  | [], _, h => by cases h
  | k :: ks, [], h => by cases h
  | k :: ks, x :: xs, h => by
    have h : (if k = j then some (if k = n then y else x) else getK ks (setK ks xs n y) j) = some z := h
    show _ ∨ (_ ∧ (if k = j then some x else getK ks xs j) = some z)
    by_cases e : k = j
    · rw [if_pos e] at h ⊢
      cases h
      by_cases e2 : k = n
      · exact .inl ⟨by rw [← e, e2], by rw [if_pos e2]⟩
      · exact .inr ⟨by rw [← e]; exact e2, by rw [if_neg e2]⟩
    · rw [if_neg e] at h ⊢; exact getK_setK h
theorem getK_delK {α : Type} {n j : Str} {z : α} : ∀ {ks : List Str} {xs : List α}, getK (delK ks ks n) (delK ks xs n) j = some z → ks.length = xs.length → getK ks xs j = some z
  | [], _, h, _ => by cases h
  | k :: ks, [], _, hl => by cases hl
  | k :: ks, x :: xs, h, hl => by
    have h : getK (if k = n then delK ks ks n else k :: delK ks ks n) (if k = n then delK ks xs n else x :: delK ks xs n) j = some z := h
    show (if k = j then some x else getK ks xs j) = some z
    by_cases e : k = n
    · rw [if_pos e, if_pos e] at h
      have := getK_delK h (by simpa using hl)
      by_cases e2 : k = j
      · have hj : j ∉ delK ks ks n := by rw [delK_self]; intro m; have := (List.mem_filter.mp m).2; rw [← e2, e] at this; simp at this
        rw [getK_none hj] at h; cases h
      · rw [if_neg e2]; exact this
    · rw [if_neg e, if_neg e] at h
      have h : (if k = j then some x else getK (delK ks ks n) (delK ks xs n) j) = some z := h
      by_cases e2 : k = j
      · rw [if_pos e2] at h ⊢; exact h
      · rw [if_neg e2] at h ⊢; exact getK_delK h (by simpa using hl)
theorem getK_ex {α : Type} {n : Str} {ks : List Str} {xs : List α} (hl : ks.length = xs.length) (h : n ∈ ks) : ∃ y, getK ks xs n = some y := Option.isSome_iff_exists.mp ((getK_mem n hl).mpr h)
theorem plc_some {n : Str} {i : Nat} {r : Rdg} : ∀ {l : List Rdg}, plc l n = some (i, r) → l[i]? = some r ∧ r.name = n ∧ i < l.length
  | [], h => by cases h
  | x :: l, h => by
    unfold plc at h
    by_cases e : x.name = n
    · rw [if_pos e] at h; cases h; exact ⟨rfl, e, Nat.succ_pos _⟩
    · rw [if_neg e] at h
      obtain ⟨⟨j, s⟩, h1, h2⟩ := Option.map_eq_some_iff.mp h
      cases h2
      obtain ⟨a, b, c⟩ := plc_some h1
      exact ⟨a, b, Nat.succ_lt_succ c⟩
theorem plc_none {n : Str} : ∀ {l : List Rdg}, plc l n = none → ∀ r, r ∈ l → r.name ≠ n
  | [], _, _, m => nomatch m
  | x :: l, h, r, m => by
    unfold plc at h
    by_cases e : x.name = n
    · rw [if_pos e] at h; cases h
    · rw [if_neg e, Option.map_eq_none_iff] at h
      rcases List.mem_cons.mp m with m | m
      · rw [m]; exact e
      · exact plc_none h r m
theorem nodup_set {l : List Rdg} {i : Nat} {r r2 : Rdg} (h : l[i]? = some r) (e : r2.name = r.name) : (l.set i r2).map Rdg.name = l.map Rdg.name := by
  rw [List.map_set, e]
  obtain ⟨hi, ei⟩ := List.getElem?_eq_some_iff.mp h
  refine List.ext_getElem? fun j => ?_
  rw [List.getElem?_set]
  by_cases c : i = j
  · subst c
    rw [if_pos rfl, List.length_map, if_pos hi, List.getElem?_map, h]; rfl
  · rw [if_neg c]
theorem delK_len {α : Type} {n : Str} {ks : List Str} {xs : List α} (h : ks.length = xs.length) : (delK ks ks n).length = (delK ks xs n).length := by
  induction ks generalizing xs with
  | nil => cases xs <;> rfl
  | cons k ks ih =>
    cases xs with
    | nil => cases h
    | cons x xs =>
      show (if k = n then delK ks ks n else k :: delK ks ks n).length = (if k = n then delK ks xs n else x :: delK ks xs n).length
      by_cases e : k = n
      · rw [if_pos e, if_pos e]; exact ih (by simpa using h)
      · rw [if_neg e, if_neg e, List.length_cons, List.length_cons, ih (by simpa using h)]
theorem BkOk.stp {b b' : Bk} {d : Dd} (h : BkOk b) (hd : DdOk d) (e : stp b d = .ok b') : BkOk b' := by
  obtain ⟨so, ro, nd, len, nm, few, fewR⟩ := h
  cases d with
  | point n q =>
    have e : addP b n q = .ok b' := e
    unfold addP at e
    split at e
    · cases e
    · rename_i h1
      split at e
      · cases e
      · rename_i h2
        cases e
        exact ⟨fun m hm => by
          rcases List.mem_append.mp hm with hm | hm
          · exact so m hm
          · rw [List.mem_singleton.mp hm]; exact hd, ro, List.nodup_append.mpr ⟨nd, by simp, fun a ha c hc => by rw [List.mem_singleton.mp hc]; exact fun e => h1 (e ▸ ha)⟩, by simp [len], nm, by rw [List.length_append, List.length_singleton]; omega, fewR⟩
  | reading r =>
    have e : addR b r = .ok b' := e
    unfold addR at e
    split at e
    · cases e
    · rename_i h1
      split at e
      · split at e
        · cases e
        · split at e
          · cases e
          · split at e
            · cases e
            · rename_i h2
              cases e
              refine ⟨so, fun m hm => ?_, nd, len, ?_, few, by rw [List.length_append, List.length_singleton]; omega⟩
              · rcases List.mem_append.mp hm with hm | hm
                · exact ro m hm
                · rw [List.mem_singleton.mp hm]; exact hd
              show ((b.rds ++ [r]).map Rdg.name).Nodup
              rw [List.map_append]
              exact List.nodup_append.mpr ⟨nm, by simp, fun a ha c hc => by rw [List.mem_singleton.mp hc]; exact fun e => h1 (e ▸ ha)⟩
      · cases e
  | appr n q =>
    have e : chA b n q = .ok b' := e
    unfold chA at e
    split at e
    · cases e; exact ⟨so, ro, nd, by show b.pts.length = (setK b.pts b.near n q).length; rw [setK_len n q len]; exact len, nm, few, fewR⟩
    · cases e
  | value n q =>
    have e : chV b n q = .ok b' := e
    unfold chV at e
    split at e
    · cases e
    · rename_i i r hp
      cases e
      obtain ⟨h1, h2, _⟩ := plc_some hp
      refine ⟨so, fun m hm => ?_, nd, len, by show ((b.rds.set i _).map Rdg.name).Nodup; rw [nodup_set h1 h2.symm]; exact nm, few, by show (b.rds.set i _).length ≤ 24; rw [List.length_set]; exact fewR⟩
      rcases List.mem_or_eq_of_mem_set hm with hm | hm
      · exact ro m hm
      · rw [hm]; have := ro r (List.mem_of_getElem? h1); exact ⟨hd, this.tm, this.few⟩
  | weight n q =>
    have e : chW b n q = .ok b' := e
    unfold chW at e
    split at e
    · cases e
    · rename_i i r hp
      split at e
      · cases e
      · cases e
        obtain ⟨h1, h2, _⟩ := plc_some hp
        refine ⟨so, fun m hm => ?_, nd, len, by show ((b.rds.set i _).map Rdg.name).Nodup; rw [nodup_set h1 h2.symm]; exact nm, few, by show (b.rds.set i _).length ≤ 24; rw [List.length_set]; exact fewR⟩
        rcases List.mem_or_eq_of_mem_set hm with hm | hm
        · exact ro m hm
        · rw [hm]; have := ro r (List.mem_of_getElem? h1); exact ⟨hd, this.tm, this.few⟩
  | withdraw n =>
    have e : wdr b n = .ok b' := e
    unfold wdr at e
    split at e
    · cases e
    · rename_i i r hp
      cases e
      exact ⟨so, fun m hm => ro m (List.mem_of_mem_eraseIdx hm), nd, len, by show ((b.rds.eraseIdx i).map Rdg.name).Nodup; exact (((List.eraseIdx_sublist b.rds i).map Rdg.name).nodup nm), few, Nat.le_trans (List.length_eraseIdx_le ..) fewR⟩
  | remove n =>
    have e : rmP b n = .ok b' := e
    unfold rmP at e
    split at e
    · split at e
      · cases e
      · cases e
        refine ⟨fun m hm => so m (by
          have hm : m ∈ delK b.pts b.pts n := hm
          rw [delK_self] at hm; exact (List.mem_filter.mp hm).1), ro, ?_, delK_len len, nm, ?_, fewR⟩
        · show (delK b.pts b.pts n).Nodup
          rw [delK_self]; exact nd.filter _
        · show (delK b.pts b.pts n).length ≤ 12
          rw [delK_self]; exact Nat.le_trans (List.length_filter_le ..) few
    · cases e
/-- the names of terms -/
theorem lc_trm {M : Mem} {Q : List D → Mem → Prop} {δ : DS0} {i j : Nat} (hij : i ≠ j) (hi : i < δ.length) : ∀ (t : List (Str × Int)) (acc : List D), acc.length + t.length ≤ sizeLine → Q (acc ++ (t.map Prod.fst).map D.str) M → dLcL always (gTu 2 (gsCons (gNm i) (gsCons (gNm j) gsNil))) dYes (dVar i) δ (t.map trmD) acc M Q
  | [], acc, _, q => ⟨trivial, by simpa using q⟩
  | x :: t, acc, hl, q => by
    rw [List.length_cons] at hl
    refine ⟨trivial, by omega, _, rfl, rfl, _, _, rfl, _, _, rfl, rfl, ?_⟩
    refine ite_t (B := dLcL always (gTu 2 (gsCons (gNm i) (gsCons (gNm j) gsNil))) dYes (dVar i) δ (t.map trmD) acc M Q) ⟨.str x.1, ?_, lc_trm hij hi t (acc ++ [.str x.1]) ?_ ?_⟩
    · rw [List.getElem?_set_ne hij.symm, List.getElem?_set_self hi]
    · rw [List.length_append, List.length_singleton]; omega
    · rw [List.append_assoc]; exact q
/-! the law's own model of a book -/
structure MdAt (m nr : Addr) (ks : List Str) (xs : List D) (b : Bk) (M : Mem) : Prop where
  at_ : M m = some (.dic ["points", "near", "readings"] [.lst (b.pts.map D.str), .ref nr, .lst (b.rds.map rowD)])
  nrAt : M nr = some (.dic ks xs)
  get : ∀ n q, getK b.pts b.near n = some q → getK ks xs n = some (pairD q)
  ne : nr ≠ m
  len : ks.length = xs.length
/-- but at m what stands stays -/
def KpX (m : Addr) (M M' : Mem) : Prop := ∀ a o, a ≠ m → M a = some o → M' a = some o
theorem KpX.refl {m : Addr} {M : Mem} : KpX m M M := fun _ _ _ h => h
theorem KpX.trans {m : Addr} {M M1 M2 : Mem} (h : KpX m M M1) (k : KpX m M1 M2) : KpX m M M2 := fun a o n e => k a o n (h a o n e)
theorem KpX.put {m : Addr} {M M1 : Mem} {o : MO} (h : KpX m M M1) : KpX m M (mput M1 m o) := fun a u n e => by rw [mput_ne n]; exact h a u n e
theorem KpX.new {m p : Addr} {M : Mem} {o : MO} (hp : M p = none) : KpX m M (mput M p o) := fun a u n e => by rw [mput_ne (fun z : a = p => by rw [z, hp] at e; cases e)]; exact e
theorem MdAt.kp {m nr ks xs b M M'} (h : MdAt m nr ks xs b M) (k : KpX m M M') (e : M' m = M m) : MdAt m nr ks xs b M' := ⟨e.trans h.at_, k _ _ h.ne h.nrAt, h.get, h.ne, h.len⟩
theorem MdAt.rds {m nr ks xs b M} (h : MdAt m nr ks xs b M) (l : List Rdg) : MdAt m nr ks xs ⟨b.pts, b.near, l⟩ (mput M m (.dic ["points", "near", "readings"] [.lst (b.pts.map D.str), .ref nr, .lst (l.map rowD)])) := ⟨mput_same, by rw [mput_ne h.ne]; exact h.nrAt, h.get, h.ne, h.len⟩
/-- what is due of a deed -/
def Due (m nr : Addr) (ks : List Str) (xs : List D) (b : Bk) (r : Res) (M : Mem) (Q : DK) : Prop := match r with
  | .error (e, t) => ∀ M', KpX m M M' → MdAt m nr ks xs b M' → Q (.tup [.str e.wd, .str t]) M'
  | .ok b' => ∀ nr' ks' xs' M', MdAt m nr' ks' xs' b' M' → ks'.length ≤ ks.length + 1 → (nr' = nr ∨ M nr' = none) → KpX m M M' → Q .non M'
/-- words compared -/
theorem wdE {x y : Str} {R : Bool → Prop} (h : R (decide (x = y))) : ∀ k : Bool, (k = true ↔ D.str x = D.str y) → R k := eS h
theorem setKA_get {α : Type} {n j : Str} {y : α} {ks : List Str} {xs : List α} (hl : ks.length = xs.length) (hm : n ∈ ks) : getK ks (setK ks xs n y) j = if j = n then some y else getK ks xs j := by
  induction ks generalizing xs with
  | nil => cases hm
  | cons k ks ih =>
    cases xs with
    | nil => cases hl
    | cons x xs =>
      show (if k = j then some (if k = n then y else x) else getK ks (setK ks xs n y) j) = if j = n then some y else if k = j then some x else getK ks xs j
      by_cases e : k = j
      · rw [if_pos e, if_pos e]
        by_cases e2 : k = n
        · rw [if_pos e2, if_pos (by rw [← e, e2])]
        · rw [if_neg e2, if_neg (by rw [← e]; exact e2)]
      · rw [if_neg e, if_neg e]
        by_cases hn : n ∈ ks
        · exact ih (by simpa using hl) hn
        · have ek : n = k := by rcases List.mem_cons.mp hm with h | h; exact h; exact absurd h hn
          have hj : j ≠ n := fun z => e (by rw [z, ek])
          rw [if_neg hj]
          have : ∀ (ks : List Str) (xs : List α), n ∉ ks → ks.length = xs.length → setK ks xs n y = xs := by
            intro ks
            induction ks with
            | nil => intro xs _ h; cases xs with
              | nil => rfl
              | cons _ _ => cases h
            | cons k ks ih2 => intro xs hn h; cases xs with
              | nil => cases h
              | cons x xs =>
                show (if k = n then y else x) :: setK ks xs n y = _
                rw [if_neg (fun z => hn (by rw [z]; exact List.mem_cons_self)), ih2 xs (fun m => hn (List.mem_cons_of_mem _ m)) (by simpa using h)]
          rw [this ks xs hn (by simpa using hl)]
theorem putD_any {n : Str} {y : D} {ks : List Str} {xs : List D} (hl : ks.length = xs.length) : ∃ ks' xs', putD ks xs n y = .dic ks' xs' ∧ (ks'.length ≤ ks.length + 1 ∧ ks'.length = xs'.length) ∧ ∀ j, getK ks' xs' j = if n = j then some y else getK ks xs j := by
  unfold putD
  by_cases c : n ∈ ks
  · rw [if_pos c]
    refine ⟨_, _, rfl, ⟨by omega, by rw [setK_len n y hl]; exact hl⟩, fun j => ?_⟩
    rw [setKA_get hl c]
    by_cases e : n = j
    · rw [if_pos e, if_pos e.symm]
    · rw [if_neg e, if_neg (fun z => e z.symm)]
  · rw [if_neg c]
    exact ⟨_, _, rfl, ⟨by rw [List.length_append, List.length_singleton]; omega, by rw [List.length_append, List.length_append, hl]; rfl⟩, fun j => getK_snoc hl c⟩
theorem putD_get {n : Str} {q : Rat} {b : Bk} {ks : List Str} {xs : List D} (hl : ks.length = xs.length) (lb : b.pts.length = b.near.length) (c : n ∉ b.pts) (g : ∀ n q, getK b.pts b.near n = some q → getK ks xs n = some (pairD q)) :
    ∃ ks' xs', putD ks xs n (pairD q) = .dic ks' xs' ∧ (ks'.length ≤ ks.length + 1 ∧ ks'.length = xs'.length) ∧ ∀ j p, getK (b.pts ++ [n]) (b.near ++ [q]) j = some p → getK ks' xs' j = some (pairD p) := by
  obtain ⟨ks', xs', e, l, h⟩ := putD_any (n := n) (y := pairD q) hl
  refine ⟨ks', xs', e, l, fun j p hj => ?_⟩
  rw [getK_snoc lb c] at hj
  rw [h j]
  by_cases z : n = j
  · rw [if_pos z] at hj ⊢; cases hj; rfl
  · rw [if_neg z] at hj ⊢; exact g j p hj
theorem putD_set {n : Str} {q : Rat} {b : Bk} {ks : List Str} {xs : List D} (hl : ks.length = xs.length) (lb : b.pts.length = b.near.length) (g : ∀ n q, getK b.pts b.near n = some q → getK ks xs n = some (pairD q)) :
    ∃ ks' xs', putD ks xs n (pairD q) = .dic ks' xs' ∧ (ks'.length ≤ ks.length + 1 ∧ ks'.length = xs'.length) ∧ ∀ j p, getK b.pts (setK b.pts b.near n q) j = some p → getK ks' xs' j = some (pairD p) := by
  obtain ⟨ks', xs', e, l, h⟩ := putD_any (n := n) (y := pairD q) hl
  refine ⟨ks', xs', e, l, fun j p hj => ?_⟩
  rw [h j]
  rcases getK_setK hj with ⟨e1, e2⟩ | ⟨e1, e2⟩
  · rw [if_pos e1.symm, e2]
  · rw [if_neg (fun z => e1 z.symm)]; exact g j p e2
theorem lc_keep {M : Mem} {Q : List D → Mem → Prop} {δ : DS0} {i : Nat} (n : Str) (sn : SO n) (hd : ∀ z, (δ.set i (some z))[1]? = some (some (.tup [.str "remove", .str n]))) (hi : i < δ.length) : ∀ (xs : List Str) (acc : List D), (∀ x, x ∈ xs → SO x) → acc.length + xs.length ≤ sizeLine → Q (acc ++ (xs.filter fun k => !decide (k = n)).map D.str) M →
    dLcL always (gNm i) (dTst (dOp rNeP (dVar i) (dOp rIxD (dVar 1) (dC (.int 1))))) (dVar i) δ (xs.map D.str) acc M Q
  | [], acc, _, _, q => ⟨trivial, by simpa using q⟩
  | x :: xs, acc, sx, hl, q => by
    rw [List.length_cons] at hl
    have e0 : (δ.set i (some (D.str x)))[i]? = some (some (.str x)) := by rw [List.getElem?_set_self hi]
    refine ⟨trivial, by omega, _, e0, _, hd _, 1, rfl, _, rfl, .inl ⟨sx x List.mem_cons_self, sn, nS ⟨_, rfl, ?_⟩⟩⟩
    rw [List.filter_cons] at q
    by_cases c : x = n
    · rw [decide_eq_true c] at q ⊢
      refine ite_f (lc_keep n sn hd hi xs acc (fun y hy => sx y (List.mem_cons_of_mem _ hy)) (by omega) q)
    · rw [decide_eq_false c] at q ⊢
      refine ite_t ⟨_, e0, lc_keep n sn hd hi xs _ (fun y hy => sx y (List.mem_cons_of_mem _ hy)) (by rw [List.length_append, List.length_singleton]; omega) ?_⟩
      rw [List.append_assoc]; exact q
/-! coefficients of a reading -/
def coef (t : List (Str × Int)) (n : Str) : Int := (getK (t.map Prod.fst) (t.map Prod.snd) n).getD 0
theorem trm_pairs (t : List (Str × Int)) : trmsD t = .tup ((t.map fun x => (x.1, D.int x.2)).map pairT) := by
  unfold trmsD; rw [List.map_map]; rfl
theorem fst_pairs (t : List (Str × Int)) : (t.map fun x => (x.1, D.int x.2)).map Prod.fst = t.map Prod.fst := by rw [List.map_map]; rfl
theorem snd_pairs (t : List (Str × Int)) : (t.map fun x => (x.1, D.int x.2)).map Prod.snd = (t.map Prod.snd).map D.int := by rw [List.map_map, List.map_map]; rfl
theorem coef_sum {n : Str} : ∀ {t : List (Str × Int)}, (t.map Prod.fst).Nodup → ((t.filter fun x => decide (x.1 = n)).map Prod.snd).sum = coef t n
  | [], _ => rfl
  | x :: t, nd => by
    obtain ⟨n1, n2⟩ := List.nodup_cons.mp nd
    have ih := coef_sum (n := n) n2
    rw [List.filter_cons]
    show _ = (if x.1 = n then some x.2 else getK (t.map Prod.fst) (t.map Prod.snd) n).getD 0
    by_cases e : x.1 = n
    · rw [decide_eq_true e, if_pos rfl, if_pos e]
      have : (t.filter fun x => decide (x.1 = n)) = [] := List.filter_eq_nil_iff.mpr fun y hy => by
        rw [decide_eq_true_iff]
        exact fun z => n1 (by rw [e, ← z]; exact List.mem_map_of_mem hy)
      rw [this]
      show x.2 + 0 = x.2
      omega
    · rw [decide_eq_false e, if_neg Bool.false_ne_true, if_neg e]; exact ih
theorem lt_trans_nat : ∀ {a b c : List Nat}, a < b → b < c → a < c := fun h1 h2 => List.lt_trans h1 h2
theorem fitG_lt {b : Str} : ∀ {t : List (Str × Int)}, fitG b t = true → (∀ x, x ∈ t → b.cps.toList < x.1.cps.toList) ∧ (t.map Prod.fst).Nodup
  | [], _ => ⟨fun x h => (nomatch h), List.nodup_nil⟩
  | (n, c) :: t, h => by
    have h : (!decide (c = 0) && (decide (-9 ≤ c) && (decide (c ≤ 9) && (ltS b n && fitG n t)))) = true := h
    simp only [Bool.and_eq_true] at h
    obtain ⟨_, _, _, h4, h5⟩ := h
    have h4 : b.cps.toList < n.cps.toList := of_decide_eq_true h4
    obtain ⟨g1, g2⟩ := fitG_lt h5
    refine ⟨fun x hx => ?_, List.nodup_cons.mpr ⟨fun m => ?_, g2⟩⟩
    · rcases List.mem_cons.mp hx with e | hx
      · rw [e]; exact h4
      · exact lt_trans_nat h4 (g1 x hx)
    · obtain ⟨x, hx, e⟩ := List.mem_map.mp m
      have := g1 x hx
      rw [e] at this
      exact absurd this (List.lt_irrefl _)
theorem fits_nodup {t : List (Str × Int)} (h : fits t = true) : (t.map Prod.fst).Nodup := by
  unfold fits at h
  rw [Bool.and_eq_true] at h
  exact (fitG_lt h.1).2
def FitOk (b : Bk) : Prop := ∀ r, r ∈ b.rds → fits r.terms = true
theorem FitOk.stp {b b' : Bk} {d : Dd} (h : FitOk b) (e : stp b d = .ok b') : FitOk b' := by
  cases d with
  | point n q =>
    have e : addP b n q = .ok b' := e
    unfold addP at e
    split at e
    · cases e
    · split at e
      · cases e
      · cases e; exact h
  | reading r =>
    have e : addR b r = .ok b' := e
    unfold addR at e
    split at e
    · cases e
    · split at e
      · rename_i hf
        split at e
        · cases e
        · split at e
          · cases e
          · split at e
            · cases e
            · cases e
              intro s hs
              rcases List.mem_append.mp hs with hs | hs
              · exact h s hs
              · rw [List.mem_singleton.mp hs]; exact hf
      · cases e
  | appr n q =>
    have e : chA b n q = .ok b' := e
    unfold chA at e
    split at e
    · cases e; exact h
    · cases e
  | value n q =>
    have e : chV b n q = .ok b' := e
    unfold chV at e
    split at e
    · cases e
    · rename_i i r hp
      cases e
      intro s hs
      rcases List.mem_or_eq_of_mem_set hs with hs | hs
      · exact h s hs
      · rw [hs]; exact h r (List.mem_of_getElem? (plc_some hp).1)
  | weight n q =>
    have e : chW b n q = .ok b' := e
    unfold chW at e
    split at e
    · cases e
    · rename_i i r hp
      split at e
      · cases e
      · cases e
        intro s hs
        rcases List.mem_or_eq_of_mem_set hs with hs | hs
        · exact h s hs
        · rw [hs]; exact h r (List.mem_of_getElem? (plc_some hp).1)
  | withdraw n =>
    have e : wdr b n = .ok b' := e
    unfold wdr at e
    split at e
    · cases e
    · cases e; exact fun s hs => h s (List.mem_of_mem_eraseIdx hs)
  | remove n =>
    have e : rmP b n = .ok b' := e
    unfold rmP at e
    split at e
    · split at e
      · cases e
      · cases e; exact h
    · cases e
/-- what stands stays -/
def KpA (M M' : Mem) : Prop := ∀ a o, M a = some o → M' a = some o
theorem KpA.refl {M : Mem} : KpA M M := fun _ _ h => h
theorem KpA.trans {M M1 M2 : Mem} (h : KpA M M1) (k : KpA M1 M2) : KpA M M2 := fun a o e => k a o (h a o e)
theorem KpA.new {p : Addr} {M : Mem} {o : MO} (hp : M p = none) : KpA M (mput M p o) := fun a u e => by rw [mput_ne (fun z : a = p => by rw [z, hp] at e; cases e)]; exact e
theorem getK_idx {α : Type} : ∀ {ks : List Str} {xs : List α} {i : Nat}, ks.Nodup → (hl : ks.length = xs.length) → (h : i < ks.length) → getK ks xs ks[i] = some (xs[i]'(by omega))
  | k :: ks, x :: xs, 0, _, _, _ => if_pos rfl
  | k :: ks, x :: xs, i + 1, nd, hl, h => by
    obtain ⟨n1, n2⟩ := List.nodup_cons.mp nd
    have h' : i < ks.length := by simpa using h
    have h2 : i < xs.length := by have : ks.length = xs.length := by simpa using hl
                                  omega
    show (if k = ks[i] then some x else getK ks xs ks[i]) = some (xs[i]'h2)
    rw [if_neg (fun e => n1 (by rw [e]; exact List.getElem_mem h')), getK_idx n2 (by simpa using hl) h']
  | [], _, _, _, _, h => absurd h (Nat.not_lt_zero _)
  | k :: ks, [], _, _, hl, _ => by cases hl
/-! terms of a normal matrix: a weight and a row -/
def termD (t : Rat × List Rat) : D := .tup [.rat t.1, vecD t.2]
def TOk (w : Nat) (t : Rat × List Rat) : Prop := Bt 10 t.1 ∧ t.2.length = w ∧ Bts 149 t.2
def entR (ts : List (Rat × List Rat)) (i j : Nat) : Rat := match ts with
  | [] => 0
  | t :: ts => t.1 * gtR t.2 i * gtR t.2 j + entR ts i j
theorem entR_app (i j : Nat) : ∀ (a b : List (Rat × List Rat)), entR (a ++ b) i j = entR a i j + entR b i j
  | [], b => by show entR b i j = 0 + _; grind
  | t :: a, b => by
    show _ + entR (a ++ b) i j = (_ + entR a i j) + _
    rw [entR_app i j a b, Rat.add_assoc]
theorem bt_ent {w i j : Nat} (hi : i < w) (hj : j < w) : ∀ (ts : List (Rat × List Rat)), (∀ t, t ∈ ts → TOk w t) → Bt (309 * ts.length) (entR ts i j)
  | [], _ => ⟨Nat.zero_le _, Nat.one_le_two_pow⟩
  | t :: ts, h => by
    obtain ⟨h1, h2, h3⟩ := h t List.mem_cons_self
    have a := bt_mul (bt_mul h1 (h3 _ (gtR_mem (k := i) (by omega)).1)) (h3 _ (gtR_mem (k := j) (by omega)).1)
    refine (bt_add a (bt_ent hi hj ts fun x hx => h x (List.mem_cons_of_mem _ hx))).mono ?_
    rw [List.length_cons]; omega
def TOk2 (w : Nat) (t : Rat × List Rat) : Prop := Bt 16 t.1 ∧ t.2.length = w ∧ Bts 400 t.2
/-- common denominators of terms -/
structure TSz (B n : Nat) (ts : List (Rat × List Rat)) : Prop where
  pos : 0 < B
  wt : ∀ t, t ∈ ts → CD 28 2048 t.1
  row : ∀ t, t ∈ ts → ∀ x, x ∈ t.2 → CD B (2 ^ n) x
/-! rows by their places -/
def tabR (l : Nat) (g : Nat → List Rat) : List (List Rat) := (List.range' 0 l).map g
theorem tab_len (l : Nat) (g : Nat → List Rat) : (tabR l g).length = l := by unfold tabR; rw [List.length_map, List.length_range']
theorem tab_row {l k : Nat} {g : Nat → List Rat} (h : k < l) : rowR (tabR l g) k = g k := by
  unfold rowR tabR; rw [List.getElem?_map, List.getElem?_range' h]; simp
theorem rows_ext {a b : List (List Rat)} (h : a.length = b.length) (e : ∀ k, k < b.length → rowR a k = rowR b k) : a = b := by
  refine List.ext_getElem h fun i h1 h2 => ?_
  have := e i h2
  unfold rowR at this
  rw [List.getElem?_eq_getElem h1, List.getElem?_eq_getElem h2] at this
  exact this
theorem set_row {rs : List (List Rat)} {i k : Nat} {r : List Rat} (hk : k < rs.length) : rowR (rs.set i r) k = if k = i then r else rowR rs k := by
  unfold rowR
  by_cases e : k = i
  · subst e; rw [if_pos rfl, List.getElem?_set_self hk]; rfl
  · rw [if_neg e, List.getElem?_set_ne (Ne.symm e)]
theorem tab_set {l k : Nat} {g : Nat → List Rat} {v : List Rat} : (tabR l g).set k v = tabR l fun i => if i = k then v else g i := by
  refine rows_ext (by rw [List.length_set, tab_len, tab_len]) fun i hi => ?_
  rw [tab_len] at hi
  rw [set_row (by rw [tab_len]; exact hi), tab_row hi, tab_row hi]
theorem tab_congr {l : Nat} {g g2 : Nat → List Rat} (h : ∀ i, i < l → g i = g2 i) : tabR l g = tabR l g2 := by
  refine rows_ext (by rw [tab_len, tab_len]) fun i hi => ?_
  rw [tab_len] at hi
  rw [tab_row hi, tab_row hi, h i hi]
theorem take_tab {rs : List (List Rat)} {n : Nat} (h : n ≤ rs.length) : rs.take n = tabR n (rowR rs) := by
  refine rows_ext (by rw [List.length_take, tab_len]; omega) fun i hi => ?_
  rw [tab_len] at hi
  rw [tab_row hi]
  unfold rowR
  rw [List.getElem?_take, if_pos hi]
def lratD (r : List Rat) : D := .lst (ratsD r)
/-- how far the law's loop is -/
def wkR (S : List (List Rat)) (u : List Rat) (k0 c k : Nat) : List (List Rat) := tabR S.length fun i => if i = k0 then u else if i < k then elimR u (rowR S i) c else rowR S i
theorem wk_len (S : List (List Rat)) (u : List Rat) (k0 c k : Nat) : (wkR S u k0 c k).length = S.length := tab_len ..
theorem wk_start {rs : List (List Rat)} {k0 f c : Nat} {u : List Rat} (h0 : k0 < rs.length) (hf : f < rs.length) : (rs.set f (rowR rs k0)).set k0 u = wkR (swapR rs k0 f) u k0 c 0 := by
  refine rows_ext (by rw [List.length_set, List.length_set, wk_len, swap_len]) fun i hi => ?_
  rw [wk_len, swap_len] at hi
  rw [set_row (by rw [List.length_set]; exact hi)]
  unfold wkR
  rw [tab_row (by rw [swap_len]; exact hi)]
  by_cases e : i = k0
  · rw [if_pos e, if_pos e]
  · rw [if_neg e, if_neg e, if_neg (by omega), set_row hi, swap_row h0 hf hi]
    by_cases e2 : i = f
    · rw [if_pos e2, if_pos e2]
    · rw [if_neg e2, if_neg e2, if_neg e]
theorem wk_end {S : List (List Rat)} {k0 c : Nat} : wkR S (unitOf (rowR S k0) c) k0 c S.length = clrR S k0 c := by
  unfold wkR clrR tabR
  refine List.map_congr_left fun i hi => ?_
  have := (List.mem_range'_1.mp hi).2
  show (if i = k0 then _ else if i < S.length then _ else _) = _
  rw [if_pos (show i < S.length by omega)]
theorem wk_same {S : List (List Rat)} {u : List Rat} {k0 c : Nat} : wkR S u k0 c k0 = wkR S u k0 c (k0 + 1) := by
  refine tab_congr fun i hi => ?_
  show (if i = k0 then u else _) = if i = k0 then u else _
  by_cases e : i = k0
  · rw [if_pos e, if_pos e]
  · rw [if_neg e, if_neg e]
    by_cases e2 : i < k0
    · rw [if_pos e2, if_pos (by omega)]
    · rw [if_neg e2, if_neg (by omega)]
theorem wk_next {S : List (List Rat)} {u : List Rat} {k0 c k : Nat} (h : k ≠ k0) : (wkR S u k0 c k).set k (elimR u (rowR S k) c) = wkR S u k0 c (k + 1) := by
  unfold wkR
  rw [tab_set]
  refine tab_congr fun i hi => ?_
  show (if i = k then _ else if i = k0 then _ else _) = if i = k0 then _ else _
  by_cases e : i = k
  · subst e
    rw [if_pos rfl, if_neg h, if_pos (by omega)]
  · rw [if_neg e]
    by_cases e0 : i = k0
    · rw [if_pos e0, if_pos e0]
    · rw [if_neg e0, if_neg e0]
      by_cases e2 : i < k
      · rw [if_pos e2, if_pos (by omega)]
      · rw [if_neg e2, if_neg (by omega)]
theorem wk_unit {S : List (List Rat)} {u : List Rat} {k0 c k : Nat} (h : k0 < S.length) : rowR (wkR S u k0 c k) k0 = u := by
  unfold wkR; rw [tab_row h, if_pos rfl]
theorem wk_row {S : List (List Rat)} {u : List Rat} {k0 c k : Nat} (h : k < S.length) (hn : k ≠ k0) : rowR (wkR S u k0 c k) k = rowR S k := by
  unfold wkR; rw [tab_row h, if_neg hn, if_neg (by omega)]
theorem elim_tab {u r : List Rat} {c w : Nat} (hu : u.length = w) (hr : r.length = w) : rowB w (fun i => gtR r i - gtR r c * gtR u i) = elimR u r c := by
  refine row_ext (by rw [rowB_len, elim_len (by omega), hr]) fun k hk => ?_
  rw [elim_len (by omega), hr] at hk
  rw [gtR_rowB hk]
  have g1 := gtR_some (xs := r) (k := k) (by omega)
  have g2 : (u.map (gtR r c * ·))[k]? = some (gtR r c * gtR u k) := by rw [List.getElem?_map, gtR_some (by omega)]; rfl
  have g3 := mapR2_get (f := fun x y => x - y) g1 g2
  show _ = gtR (mapR2 (fun x y => x - y) r _) k
  unfold gtR at g3 ⊢
  rw [g3]; rfl
theorem unit_div (r : List Rat) (c : Nat) : r.map (fun x => x / gtR r c) = unitOf r c := by
  unfold unitOf
  refine List.map_congr_left fun x _ => ?_
  show x / gtR r c = 1 / gtR r c * x
  rw [Rat.div_def, Rat.div_def, Rat.one_mul, Rat.mul_comm]
/-- what a test leaves of a range, the memory as it is -/
theorem lc_filtM {j N : Nat} {tt : DT} {δ : DS0} {M : Mem} {Q : List D → Mem → Prop} (keep : Nat → Bool) (hj : j < δ.length) (h : ∀ (k : Nat) (K : Bool → Mem → Prop), k < N → K (keep k) M → tt (δ.set j (some (.int (k : Int)))) M K) :
    ∀ (n a : Nat) (acc : List D), a + n ≤ N → acc.length + n ≤ sizeLine → Q (acc ++ natsD ((List.range' a n).filter keep)) M → dLcL always (gNm j) tt (dVar j) δ ((List.range' a n).map fun (k : Nat) => D.int (k : Int)) acc M Q
  | 0, a, acc, _, _, q => ⟨trivial, by simpa [natsD] using q⟩
  | n + 1, a, acc, hN, hl, q => by
    refine ⟨trivial, by omega, h a _ (by omega) ?_⟩
    rw [List.range'_succ, List.filter_cons] at q
    cases hk : keep a with
    | true =>
      rw [hk, if_pos rfl] at q
      refine ite_t (B := dLcL always (gNm j) tt (dVar j) δ ((List.range' (a + 1) n).map fun (k : Nat) => D.int (k : Int)) acc M Q) ⟨_, List.getElem?_set_self hj, lc_filtM keep hj h n (a + 1) _ (by omega) ?_ ?_⟩
      · rw [List.length_append, List.length_singleton]; omega
      · rw [List.append_assoc]; exact q
    | false =>
      rw [hk, if_neg Bool.false_ne_true] at q
      exact ite_f (lc_filtM keep hj h n (a + 1) acc (by omega) (by omega) q)
theorem filt_head {rs : List (List Rat)} {c s : Nat} : ((List.range' s (rs.length - s)).filter fun k => !decide (ent rs k c = 0)).head? = fstNZ rs c s := List.head?_filter
/-! what the reduced form is -/
def pv (ps : List Nat) (i : Nat) : Nat := ps[i]?.getD 0
theorem pv_old {ps : List Nat} {c i : Nat} (h : i < ps.length) : pv (ps ++ [c]) i = pv ps i := by
  unfold pv; rw [List.getElem?_append_left h]
theorem pv_new (ps : List Nat) (c : Nat) : pv (ps ++ [c]) ps.length = c := by
  unfold pv; rw [List.getElem?_append_right (Nat.le_refl _), Nat.sub_self]; rfl
theorem pv_mem {ps : List Nat} {i : Nat} (h : i < ps.length) : pv ps i ∈ ps := by
  unfold pv; rw [List.getElem?_eq_getElem h]; exact List.getElem_mem h
theorem mem_pv {ps : List Nat} {x : Nat} (h : x ∈ ps) : ∃ i, i < ps.length ∧ pv ps i = x := by
  obtain ⟨i, hi, rfl⟩ := List.getElem_of_mem h
  exact ⟨i, hi, by unfold pv; rw [List.getElem?_eq_getElem hi]; rfl⟩
structure RInv (w c : Nat) (rs : List (List Rat)) (ps : List Nat) : Prop where
  wid : Wid w rs
  len : ps.length ≤ rs.length
  cnt : ps.length ≤ c
  lo : ∀ i, i < ps.length → i ≤ pv ps i
  hi : ∀ i, i < ps.length → pv ps i + (ps.length - i) ≤ c
  zero : ∀ k, ps.length ≤ k → k < rs.length → ∀ j, j < c → ent rs k j = 0
  unit : ∀ i, i < ps.length → ∀ k, k < rs.length → ent rs k (pv ps i) = if k = i then 1 else 0
theorem RInv.start {w : Nat} {m : List (List Rat)} (h : Wid w m) : RInv w 0 m [] := ⟨h, Nat.zero_le _, Nat.zero_le _, fun i hi => absurd hi (Nat.not_lt_zero _), fun i hi => absurd hi (Nat.not_lt_zero _), fun k _ _ j hj => absurd hj (Nat.not_lt_zero _), fun i hi => absurd hi (Nat.not_lt_zero _)⟩
theorem fst_none {rs : List (List Rat)} {c s : Nat} (h : fstNZ rs c s = none) {k : Nat} (h1 : s ≤ k) (h2 : k < rs.length) : ent rs k c = 0 := by
  unfold fstNZ at h
  have := List.find?_eq_none.mp h k (List.mem_range'_1.mpr ⟨h1, by omega⟩)
  simpa using this
theorem RInv.skip {w c : Nat} {rs : List (List Rat)} {ps : List Nat} (h : RInv w c rs ps) (hf : fstNZ rs c ps.length = none) : RInv w (c + 1) rs ps :=
  ⟨h.wid, h.len, Nat.le_succ_of_le h.cnt, h.lo, fun i hi => Nat.le_succ_of_le (h.hi i hi), fun k h1 h2 j hj => by
    by_cases e : j = c
    · rw [e]; exact fst_none hf h1 h2
    · exact h.zero k h1 h2 j (by omega), h.unit⟩
theorem ent_clr {S : List (List Rat)} {w k0 c k j : Nat} (hW : Wid w S) (h0 : k0 < S.length) (hk : k < S.length) (hj : j < w) : ent (clrR S k0 c) k j = if k = k0 then 1 / ent S k0 c * ent S k0 j else ent S k j - ent S k c * (1 / ent S k0 c * ent S k0 j) := by
  have e : rowR (clrR S k0 c) k = if k = k0 then unitOf (rowR S k0) c else elimR (unitOf (rowR S k0) c) (rowR S k) c := by
    unfold rowR clrR; rw [List.getElem?_map, List.getElem?_range' hk]; simp; rfl
  have l0 := hW _ (rowR_mem h0)
  have lk := hW _ (rowR_mem hk)
  have u : gtR (unitOf (rowR S k0) c) j = 1 / ent S k0 c * ent S k0 j := gtR_mapQ (by omega)
  unfold ent
  rw [e]
  by_cases ek : k = k0
  · rw [if_pos ek, if_pos ek]; exact u
  · rw [if_neg ek, if_neg ek, ← elim_tab (w := w) (by rw [unit_len, l0]) lk, gtR_rowB hj, u]; rfl
theorem RInv.step {w c f : Nat} {rs : List (List Rat)} {ps : List Nat} (h : RInv w c rs ps) (hc : c < w) (hf : fstNZ rs c ps.length = some f) : RInv w (c + 1) (clrR (swapR rs ps.length f) ps.length c) (ps ++ [c]) := by
  obtain ⟨f1, f2, f3⟩ := fst_some hf
  have hat : ps.length < rs.length := by omega
  have hW := swap_wid h.wid hat f2
  have lsw := swap_len rs ps.length f
  have lcl := clr_len (swapR rs ps.length f) ps.length c
  have la : (ps ++ [c]).length = ps.length + 1 := by rw [List.length_append, List.length_singleton]
  -- the swapped rows
  have hz : ∀ k, ps.length ≤ k → k < rs.length → ∀ j, j < c → ent (swapR rs ps.length f) k j = 0 := fun k h1 h2 j hj => by
    unfold ent
    rw [swap_row hat f2 h2]
    split
    · exact h.zero _ (Nat.le_refl _) hat j hj
    · split
      · exact h.zero _ f1 f2 j hj
      · exact h.zero _ h1 h2 j hj
  have hu : ∀ i, i < ps.length → ∀ k, k < rs.length → ent (swapR rs ps.length f) k (pv ps i) = if k = i then 1 else 0 := fun i hi k hk => by
    by_cases hk2 : k < ps.length
    · have : ent (swapR rs ps.length f) k (pv ps i) = ent rs k (pv ps i) := by
        unfold ent; rw [swap_row hat f2 hk, if_neg (by omega), if_neg (by omega)]
      rw [this]; exact h.unit i hi k hk
    · rw [hz k (by omega) hk _ (by have := h.hi i hi; omega), if_neg (by omega)]
  have hl : ent (swapR rs ps.length f) ps.length c ≠ 0 := by unfold ent; rw [swap_lead hat f2]; exact f3
  have en : ∀ k j, k < rs.length → j < w → ent (clrR (swapR rs ps.length f) ps.length c) k j = _ := fun k j hk hj => ent_clr (c := c) hW (by omega) (show k < (swapR rs ps.length f).length by omega) hj
  have early : ∀ k j, k < rs.length → j < c → ent (clrR (swapR rs ps.length f) ps.length c) k j = ent (swapR rs ps.length f) k j := fun k j hk hj => by
    rw [en k j hk (by omega), hz ps.length (Nat.le_refl _) hat j hj]
    split
    · rename_i e; rw [e, hz ps.length (Nat.le_refl _) hat j hj]; grind
    · grind
  have atc : ∀ k, k < rs.length → ent (clrR (swapR rs ps.length f) ps.length c) k c = if k = ps.length then 1 else 0 := fun k hk => by
    rw [en k c hk hc]
    split
    · grind
    · grind
  refine ⟨clr_wid hW (by omega), by omega, by have := h.cnt; omega, fun i hi => ?_, fun i hi => ?_, fun k h1 h2 j hj => ?_, fun i hi k hk => ?_⟩
  · by_cases e : i < ps.length
    · rw [pv_old e]; exact h.lo i e
    · have : i = ps.length := by omega
      rw [this, pv_new]; exact h.cnt
  · by_cases e : i < ps.length
    · rw [pv_old e]; have := h.hi i e; omega
    · have : i = ps.length := by omega
      rw [this, pv_new]; omega
  · rw [lcl, lsw] at h2
    rw [la] at h1
    by_cases e : j = c
    · rw [e, atc k h2, if_neg (by omega)]
    · rw [early k j h2 (by omega)]; exact hz k (by omega) h2 j (by omega)
  · rw [lcl, lsw] at hk
    by_cases e : i < ps.length
    · have hlt : pv ps i < c := by have := h.hi i e; omega
      rw [pv_old e, early k _ hk hlt]; exact hu i e k hk
    · have : i = ps.length := by omega
      rw [this, pv_new]; exact atc k hk
theorem red_inv {w : Nat} : ∀ (n c : Nat) (rs : List (List Rat)) (ps : List Nat), c + n ≤ w → RInv w c rs ps → RInv w (c + n) (redL (List.range' c n) rs ps).1 (redL (List.range' c n) rs ps).2
  | 0, c, rs, ps, _, h => h
  | n + 1, c, rs, ps, hc, h => by
    rw [List.range'_succ]
    cases hf : fstNZ rs c ps.length with
    | none =>
      rw [red_none hf]
      have := red_inv n (c + 1) rs ps (by omega) (h.skip hf)
      rw [show c + 1 + n = c + (n + 1) by omega] at this; exact this
    | some f =>
      rw [red_some hf]
      have := red_inv n (c + 1) _ _ (by omega) (h.step (by omega) hf)
      rw [show c + 1 + n = c + (n + 1) by omega] at this; exact this
theorem redA_inv {w : Nat} {m : List (List Rat)} (h : Wid w m) : RInv w w (redA m w).1 (redA m w).2 := by
  have := red_inv w 0 m [] (by omega) (RInv.start h)
  rw [Nat.zero_add] at this; exact this
/-! solutions stay -/
theorem dot_unit (r : List Rat) (c : Nat) (v : List Rat) : dotR (unitOf r c) v = 1 / gtR r c * dotR r v := by
  unfold unitOf
  generalize 1 / gtR r c = q
  induction r generalizing v with
  | nil => show (0 : Rat) = q * 0; grind
  | cons x r ih =>
    cases v with
    | nil => show (0 : Rat) = q * 0; grind
    | cons y v =>
      show q * x * y + dotR (r.map (q * ·)) v = q * (x * y + dotR r v)
      rw [ih]; grind
theorem dot_elim {q : Rat} : ∀ (r u v : List Rat), u.length = r.length → dotR (mapR2 (fun x y => x - y) r (u.map (q * ·))) v = dotR r v - q * dotR u v
  | [], [], v, _ => by show (0 : Rat) = 0 - q * 0; grind
  | [], _ :: _, v, h => by cases h
  | _ :: _, [], v, h => by cases h
  | x :: r, y :: u, [], _ => by show (0 : Rat) = 0 - q * 0; grind
  | x :: r, y :: u, z :: v, h => by
    show (x - q * y) * z + dotR (mapR2 (fun x y => x - y) r (u.map (q * ·))) v = x * z + dotR r v - q * (y * z + dotR u v)
    rw [dot_elim r u v (by simpa using h)]; grind
def Sol (rs : List (List Rat)) (v : List Rat) : Prop := ∀ k, k < rs.length → dotR (rowR rs k) v = 0
theorem row_clr {S : List (List Rat)} {k0 c k : Nat} (hk : k < S.length) : rowR (clrR S k0 c) k = if k = k0 then unitOf (rowR S k0) c else elimR (unitOf (rowR S k0) c) (rowR S k) c := by
  unfold rowR clrR; rw [List.getElem?_map, List.getElem?_range' hk]; simp; rfl
theorem sol_clr {S : List (List Rat)} {w k0 c : Nat} {v : List Rat} (hW : Wid w S) (h0 : k0 < S.length) (hz : ent S k0 c ≠ 0) (h : Sol (clrR S k0 c) v) : Sol S v := by
  have l0 := hW _ (rowR_mem h0)
  have hu : dotR (unitOf (rowR S k0) c) v = 0 := by
    have := h k0 (by rw [clr_len]; exact h0)
    rw [row_clr h0, if_pos rfl] at this; exact this
  intro k hk
  have lk := hW _ (rowR_mem hk)
  by_cases e : k = k0
  · subst e
    rw [dot_unit] at hu
    have hz2 : gtR (rowR S k) c ≠ 0 := hz
    have : gtR (rowR S k) c * (1 / gtR (rowR S k) c * dotR (rowR S k) v) = 0 := by rw [hu]; grind
    grind
  · have := h k (by rw [clr_len]; exact hk)
    rw [row_clr hk, if_neg e] at this
    unfold elimR at this
    rw [dot_elim _ _ _ (by rw [unit_len]; omega), hu] at this
    grind
theorem sol_swap {rs : List (List Rat)} {i j : Nat} {v : List Rat} (hi : i < rs.length) (hj : j < rs.length) (h : Sol (swapR rs i j) v) : Sol rs v := by
  intro k hk
  have row : ∀ k2, k2 < rs.length → dotR (rowR (swapR rs i j) k2) v = 0 := fun k2 h2 => h k2 (by rw [swap_len]; exact h2)
  by_cases e1 : k = i
  · have := row j hj
    rw [swap_row hi hj hj, if_pos rfl] at this
    rw [e1]; exact this
  · by_cases e2 : k = j
    · have := row i hi
      rw [swap_lead hi hj] at this
      rw [e2]; exact this
    · have := row k hk
      rw [swap_row hi hj hk, if_neg e2, if_neg e1] at this; exact this
theorem sol_red {w : Nat} {v : List Rat} : ∀ (n c : Nat) (rs : List (List Rat)) (ps : List Nat), c + n ≤ w → Wid w rs → Sol (redL (List.range' c n) rs ps).1 v → Sol rs v
  | 0, c, rs, ps, _, _, h => h
  | n + 1, c, rs, ps, hc, hW, h => by
    rw [List.range'_succ] at h
    cases hf : fstNZ rs c ps.length with
    | none => rw [red_none hf] at h; exact sol_red n (c + 1) rs ps (by omega) hW h
    | some f =>
      rw [red_some hf] at h
      obtain ⟨f1, f2, f3⟩ := fst_some hf
      have hat : ps.length < rs.length := by omega
      have lsw := swap_len rs ps.length f
      have hW2 := swap_wid hW hat f2
      have hz : ent (swapR rs ps.length f) ps.length c ≠ 0 := by unfold ent; rw [swap_lead hat f2]; exact f3
      exact sol_swap hat f2 (sol_clr hW2 (by omega) hz (sol_red n (c + 1) _ _ (by omega) (clr_wid hW2 (by omega)) h))
/-- the sizes at the end -/
theorem red_sz {w : Nat} : ∀ (k c : Nat) (rs : List (List Rat)) (ps : List Nat) (n : Nat), c + k ≤ w → Wid w rs → ps.length ≤ rs.length → SzM n rs → ∃ n2, SzM n2 (redL (List.range' c k) rs ps).1 ∧ (n2 + 1) * 2 ^ ps.length = (n + 1) * 2 ^ (redL (List.range' c k) rs ps).2.length
  | 0, c, rs, ps, n, _, _, _, h => ⟨n, h, rfl⟩
  | k + 1, c, rs, ps, n, hc, hW, hp, h => by
    rw [List.range'_succ]
    cases hf : fstNZ rs c ps.length with
    | none => rw [red_none hf]; exact red_sz k (c + 1) rs ps n (by omega) hW hp h
    | some f =>
      rw [red_some hf]
      obtain ⟨f1, f2, f3⟩ := fst_some hf
      have hat : ps.length < rs.length := by omega
      have lsw := swap_len rs ps.length f
      have lcl := clr_len (swapR rs ps.length f) ps.length c
      have hW2 := swap_wid hW hat f2
      have hz : ent (swapR rs ps.length f) ps.length c ≠ 0 := by unfold ent; rw [swap_lead hat f2]; exact f3
      obtain ⟨k1, _, _⟩ := clr_sz hW2 (by omega) (show c < w by omega) hz (h.sub fun r hr => swap_mem hat f2 hr)
      obtain ⟨n2, h1, h2⟩ := red_sz k (c + 1) (clrR (swapR rs ps.length f) ps.length c) (ps ++ [c]) (2 * n + 1) (by omega) (clr_wid hW2 (by omega)) (by rw [List.length_append, List.length_singleton]; omega) k1
      refine ⟨n2, h1, ?_⟩
      rw [List.length_append, List.length_singleton, Nat.pow_succ, ← Nat.mul_assoc, show 2 * n + 1 + 1 = (n + 1) * 2 by omega, Nat.mul_assoc (n + 1) 2, Nat.mul_comm 2, ← Nat.mul_assoc] at h2
      exact Nat.eq_of_mul_eq_mul_right (by decide) h2
/-! the vectors of the kernel -/
def kst (R : List (List Rat)) (f : Nat) : Nat → List Nat → List Rat → List Rat
  | _, [], v => v
  | i, p :: ps, v => kst R f (i + 1) ps (v.set p (-(ent R i f)))
def kerV (m : List (List Rat)) (w f : Nat) : List Rat := kst (redA m w).1 f 0 (pivM m w) ((List.replicate w 0).set f 1)
def freeL (m : List (List Rat)) (w n : Nat) : List Nat := (List.range' 0 n).filter fun j => !decide (j ∈ pivM m w)
theorem kst_len (R : List (List Rat)) (f : Nat) : ∀ (ps : List Nat) (i : Nat) (v : List Rat), (kst R f i ps v).length = v.length
  | [], _, _ => rfl
  | p :: ps, i, v => by
    show (kst R f (i + 1) ps (v.set p _)).length = _
    rw [kst_len R f ps, List.length_set]
theorem gtR_set {v : List Rat} {p j : Nat} {x : Rat} (hj : j < v.length) : gtR (v.set p x) j = if j = p then x else gtR v j := by
  unfold gtR
  by_cases e : j = p
  · subst e; rw [if_pos rfl, List.getElem?_set_self hj]; rfl
  · rw [if_neg e, List.getElem?_set_ne (Ne.symm e)]
theorem kst_out {R : List (List Rat)} {f j : Nat} : ∀ (ps : List Nat) (i : Nat) (v : List Rat), j < v.length → j ∉ ps → gtR (kst R f i ps v) j = gtR v j
  | [], _, _, _, _ => rfl
  | p :: ps, i, v, hj, hn => by
    show gtR (kst R f (i + 1) ps (v.set p _)) j = _
    rw [kst_out ps (i + 1) _ (by rw [List.length_set]; exact hj) fun m => hn (List.mem_cons_of_mem _ m), gtR_set hj, if_neg fun e : j = p => hn (e ▸ List.mem_cons_self)]
def Inj (ps : List Nat) : Prop := ∀ i j, i < ps.length → j < ps.length → pv ps i = pv ps j → i = j
theorem Inj.tail {p : Nat} {ps : List Nat} (h : Inj (p :: ps)) : p ∉ ps ∧ Inj ps := by
  refine ⟨fun m => ?_, fun i j hi hj e => ?_⟩
  · obtain ⟨i, hi, e⟩ := mem_pv m
    have := h 0 (i + 1) (by rw [List.length_cons]; omega) (by rw [List.length_cons]; omega) e.symm
    omega
  · have := h (i + 1) (j + 1) (by rw [List.length_cons]; omega) (by rw [List.length_cons]; omega) e
    omega
theorem kst_in {R : List (List Rat)} {f : Nat} : ∀ (ps : List Nat) (i : Nat) (v : List Rat), Inj ps → (∀ p, p ∈ ps → p < v.length) → ∀ k, k < ps.length → gtR (kst R f i ps v) (pv ps k) = -(ent R (i + k) f)
  | [], _, _, _, _, k, hk => absurd hk (Nat.not_lt_zero _)
  | p :: ps, i, v, hi, hl, k, hk => by
    obtain ⟨hn, hi2⟩ := hi.tail
    have hp := hl p List.mem_cons_self
    show gtR (kst R f (i + 1) ps (v.set p _)) _ = _
    cases k with
    | zero =>
      show gtR (kst R f (i + 1) ps (v.set p _)) p = _
      rw [kst_out ps (i + 1) _ (by rw [List.length_set]; exact hp) hn, gtR_set hp, if_pos rfl]; rfl
    | succ k =>
      have := kst_in (R := R) (f := f) ps (i + 1) (v.set p (-(ent R i f))) hi2 (fun q hq => by rw [List.length_set]; exact hl q (List.mem_cons_of_mem _ hq)) k (by rw [List.length_cons] at hk; omega)
      rw [show i + (k + 1) = i + 1 + k by omega]; exact this
theorem RInv.inj {w c : Nat} {rs : List (List Rat)} {ps : List Nat} (h : RInv w c rs ps) : Inj ps := fun i j hi hj e => by
  have h1 := h.unit i hi i (by have := h.len; omega)
  have h2 := h.unit j hj i (by have := h.len; omega)
  rw [if_pos rfl, e] at h1
  rw [h1] at h2
  by_cases e2 : i = j
  · exact e2
  · rw [if_neg e2] at h2
    exact absurd h2 (by decide)
theorem RInv.lt {w c : Nat} {rs : List (List Rat)} {ps : List Nat} (h : RInv w c rs ps) {p : Nat} (hp : p ∈ ps) : p < c := by
  obtain ⟨i, hi, rfl⟩ := mem_pv hp
  have := h.hi i hi; omega
theorem RInv.few {w : Nat} {rs : List (List Rat)} {ps : List Nat} (h : RInv w w rs ps) {f : Nat} (hf : f < w) (hn : f ∉ ps) : ps.length < w := by
  have h1 := h.cnt
  by_cases e : ps.length = w
  · have h2 := h.hi f (by omega)
    have h3 := h.lo f (by omega)
    have : pv ps f = f := by omega
    exact absurd (this ▸ pv_mem (show f < ps.length by omega)) hn
  · omega
theorem sum_two (g : Nat → Rat) {n a b : Nat} (ha : a < n) (hb : b < n) (hab : a ≠ b) (h : ∀ j, j < n → j ≠ a → j ≠ b → g j = 0) : sumR n g = g a + g b := by
  have e : sumR n g = sumR n fun j => (if j = a then g a else 0) + (if j = b then g b else 0) := sum_congr fun j hj => by
    by_cases e1 : j = a
    · rw [if_pos e1, if_neg (by omega), e1]; grind
    · by_cases e2 : j = b
      · rw [if_neg e1, if_pos e2, e2]; grind
      · rw [if_neg e1, if_neg e2, h j hj e1 e2]; grind
  rw [e, sum_add, sum_one _ a n ha fun k _ hk => if_neg hk, sum_one _ b n hb fun k _ hk => if_neg hk, if_pos rfl, if_pos rfl]
theorem ker_len (m : List (List Rat)) (w f : Nat) : (kerV m w f).length = w := by
  unfold kerV; rw [kst_len, List.length_set, List.length_replicate]
theorem ker_at {m : List (List Rat)} {w f j : Nat} (hW : Wid w m) (hn : f ∉ pivM m w) (hj : j < w) (hp : j ∉ pivM m w) : gtR (kerV m w f) j = if j = f then 1 else 0 := by
  have hl : j < (List.replicate w (0 : Rat)).length := by rw [List.length_replicate]; exact hj
  unfold kerV
  rw [kst_out _ _ _ (by rw [List.length_set]; exact hl) hp, gtR_set hl]
  split
  · rfl
  · unfold gtR; rw [List.getElem?_replicate, if_pos hj]; rfl
theorem ker_pv {m : List (List Rat)} {w f k : Nat} (hW : Wid w m) (hk : k < (pivM m w).length) : gtR (kerV m w f) (pv (pivM m w) k) = -(ent (redA m w).1 k f) := by
  have h : RInv w w (redA m w).1 (pivM m w) := redA_inv hW
  unfold kerV
  have := kst_in (R := (redA m w).1) (f := f) (pivM m w) 0 ((List.replicate w 0).set f 1) h.inj (fun p hp => by rw [List.length_set, List.length_replicate]; exact h.lt hp) k hk
  rw [Nat.zero_add] at this; exact this
theorem ker_sol {m : List (List Rat)} {w f : Nat} (hW : Wid w m) (hf : f < w) (hn : f ∉ pivM m w) : Sol m (kerV m w f) := by
  have h : RInv w w (redA m w).1 (pivM m w) := redA_inv hW
  refine sol_red w 0 m [] (by omega) hW fun k hk => ?_
  have hk' : k < (redA m w).1.length := hk
  have lr : (rowR (redA m w).1 k).length = w := h.wid _ (rowR_mem hk')
  show dotR (rowR (redA m w).1 k) (kerV m w f) = 0
  rw [dot_sum _ _ (by rw [lr, ker_len]), ker_len]
  by_cases hkp : k < (pivM m w).length
  · have hp := h.lt (pv_mem hkp)
    have ne : f ≠ pv (pivM m w) k := fun e => hn (e ▸ pv_mem hkp)
    rw [sum_two _ hf hp ne fun j hj h1 h2 => ?_]
    · rw [ker_at hW hn hf hn, if_pos rfl, ker_pv hW hkp]
      have := h.unit k hkp k hk'
      rw [if_pos rfl] at this
      show ent (redA m w).1 k f * 1 + ent (redA m w).1 k (pv (pivM m w) k) * _ = 0
      rw [show ent (redA m w).1 k (pv (pivM m w) k) = 1 from this]; grind
    · by_cases hjp : j ∈ pivM m w
      · obtain ⟨i, hi, rfl⟩ := mem_pv hjp
        have := h.unit i hi k hk'
        rw [if_neg fun e => h2 (by rw [e])] at this
        show ent (redA m w).1 k (pv (pivM m w) i) * _ = 0
        rw [show ent (redA m w).1 k (pv (pivM m w) i) = 0 from this]; grind
      · rw [ker_at hW hn hj hjp, if_neg h1]; grind
  · refine sum_zero _ _ fun j hj => ?_
    have := h.zero k (Nat.le_of_not_lt hkp) hk' j hj
    show ent (redA m w).1 k j * _ = 0
    rw [this]; grind
/-- sizes -/
theorem redA_sz {m : List (List Rat)} {w n : Nat} (hW : Wid w m) (hS : SzM n m) : ∃ n2, SzM n2 (redA m w).1 ∧ n2 + 1 = (n + 1) * 2 ^ (pivM m w).length := by
  obtain ⟨n2, h1, h2⟩ := red_sz w 0 m [] n (by omega) hW (Nat.zero_le _) hS
  refine ⟨n2, h1, ?_⟩
  rw [List.length_nil, Nat.pow_zero, Nat.mul_one] at h2
  exact h2
theorem ker_cd {m : List (List Rat)} {w f D n : Nat} (hW : Wid w m) (hf : f < w) (hn : f ∉ pivM m w) (hD : D ≤ 2 ^ n) (hC : Cds D (2 ^ n) (redA m w).1) : ∀ x, x ∈ kerV m w f → CD D (2 ^ n) x := fun x hx => by
  have h : RInv w w (redA m w).1 (pivM m w) := redA_inv hW
  obtain ⟨j, hj, rfl⟩ := List.getElem_of_mem hx
  have e : (kerV m w f)[j] = gtR (kerV m w f) j := by unfold gtR; rw [List.getElem?_eq_getElem hj]; rfl
  rw [ker_len] at hj
  rw [e]
  by_cases hjp : j ∈ pivM m w
  · obtain ⟨k, hk, rfl⟩ := mem_pv hjp
    rw [ker_pv hW hk]
    have hk2 : k < (redA m w).1.length := by have := h.len; exact Nat.lt_of_lt_of_le hk this
    have hr := rowR_mem hk2
    exact (hC _ hr _ (gtR_mem (by rw [h.wid _ hr]; exact hf)).1).neg
  · rw [ker_at hW hn hj hjp]
    split
    · refine ⟨D, ?_, by rw [Int.natAbs_natCast]; exact hD⟩
      rw [Rat.one_mul]; rfl
    · exact cd_zero
/-! a matrix with a column behind it -/
def joinR (m : List (List Rat)) (b : List Rat) : List (List Rat) := List.zipWith (fun r y => r ++ [y]) m b
theorem join_len {m : List (List Rat)} {b : List Rat} (h : m.length = b.length) : (joinR m b).length = m.length := by unfold joinR; rw [List.length_zipWith]; omega
theorem join_row {m : List (List Rat)} {b : List Rat} {k : Nat} (h1 : k < m.length) (h2 : k < b.length) : rowR (joinR m b) k = rowR m k ++ [gtR b k] := by
  unfold rowR joinR
  rw [List.getElem?_zipWith, List.getElem?_eq_getElem h1, gtR_some h2]; rfl
theorem join_wid {m : List (List Rat)} {b : List Rat} {w : Nat} (h : m.length = b.length) (hW : Wid w m) : Wid (w + 1) (joinR m b) := fun r hr => by
  obtain ⟨k, hk, rfl⟩ := mem_row hr
  rw [join_len h] at hk
  rw [join_row hk (by omega), List.length_append, List.length_singleton, hW _ (rowR_mem hk)]
theorem gtR_app {r : List Rat} {y : Rat} {j : Nat} (hj : j < r.length) : gtR (r ++ [y]) j = gtR r j := by
  unfold gtR; rw [List.getElem?_append_left hj]
theorem gtR_end (r : List Rat) (y : Rat) : gtR (r ++ [y]) r.length = y := by
  unfold gtR; rw [List.getElem?_append_right (Nat.le_refl _), Nat.sub_self]; rfl
/-- alike in the first w columns -/
structure Alike (w : Nat) (a b : List (List Rat)) : Prop where
  len : a.length = b.length
  eq : ∀ k, k < a.length → ∀ j, j < w → ent a k j = ent b k j
theorem fst_congr {a b : List (List Rat)} {c s w : Nat} (h : Alike w a b) (hc : c < w) : fstNZ a c s = fstNZ b c s := by
  unfold fstNZ
  rw [h.len]
  have : ∀ (l : List Nat), (∀ k, k ∈ l → k < a.length) → (l.find? fun k => !decide (ent a k c = 0)) = l.find? fun k => !decide (ent b k c = 0) := by
    intro l
    induction l with
    | nil => intro _; rfl
    | cons k l ih =>
      intro hl
      rw [List.find?_cons, List.find?_cons, h.eq k (hl k List.mem_cons_self) c hc, ih fun x hx => hl x (List.mem_cons_of_mem _ hx)]
  exact this _ fun k hk => by have h1 := List.mem_range'_1.mp hk; have := h.len; omega
theorem alike_swap {a b : List (List Rat)} {w i j : Nat} (h : Alike w a b) (hi : i < a.length) (hj : j < a.length) : Alike w (swapR a i j) (swapR b i j) := by
  have hl := h.len
  refine ⟨by rw [swap_len, swap_len, hl], fun k hk c hc => ?_⟩
  rw [swap_len] at hk
  unfold ent
  rw [swap_row hi hj hk, swap_row (by omega) (by omega) (by omega)]
  split
  · exact h.eq i hi c hc
  · split
    · exact h.eq j hj c hc
    · exact h.eq k hk c hc
theorem alike_clr {a b : List (List Rat)} {w w1 w2 k0 c : Nat} (h : Alike w a b) (ha : Wid w1 a) (hb : Wid w2 b) (h1 : w ≤ w1) (h2 : w ≤ w2) (h0 : k0 < a.length) (hc : c < w) : Alike w (clrR a k0 c) (clrR b k0 c) := by
  have hl := h.len
  refine ⟨by rw [clr_len, clr_len, hl], fun k hk j hj => ?_⟩
  rw [clr_len] at hk
  rw [ent_clr ha h0 hk (by omega), ent_clr hb (by omega) (by omega) (by omega), h.eq k0 h0 c hc, h.eq k0 h0 j hj, h.eq k hk j hj, h.eq k hk c hc]
theorem red_alike {w w1 w2 : Nat} (h1 : w ≤ w1) (h2 : w ≤ w2) : ∀ (cs : List Nat) (a b : List (List Rat)) (ps : List Nat), (∀ c, c ∈ cs → c < w) → Wid w1 a → Wid w2 b → Alike w a b → ps.length ≤ a.length → (redL cs a ps).2 = (redL cs b ps).2
  | [], a, b, ps, _, _, _, _, _ => rfl
  | c :: cs, a, b, ps, hcs, ha, hb, h, hp => by
    have hc := hcs c List.mem_cons_self
    have hcs2 : ∀ c, c ∈ cs → c < w := fun x hx => hcs x (List.mem_cons_of_mem _ hx)
    have hl := h.len
    have e := fst_congr (s := ps.length) h hc
    cases hf : fstNZ a c ps.length with
    | none => rw [red_none hf, red_none (e ▸ hf)]; exact red_alike h1 h2 cs a b ps hcs2 ha hb h hp
    | some f =>
      obtain ⟨f1, f2, f3⟩ := fst_some hf
      have hat : ps.length < a.length := by omega
      rw [red_some hf, red_some (e ▸ hf)]
      have la := swap_len a ps.length f
      have lca := clr_len (swapR a ps.length f) ps.length c
      have lb := swap_len b ps.length f
      have wa := swap_wid ha hat f2
      have wb := swap_wid hb (show ps.length < b.length by omega) (show f < b.length by omega)
      exact red_alike h1 h2 cs _ _ _ hcs2 (clr_wid wa (by omega)) (clr_wid wb (by omega)) (alike_clr (alike_swap h hat f2) wa wb h1 h2 (by omega) hc) (by rw [List.length_append, List.length_singleton]; omega)
theorem red_app : ∀ (cs ds : List Nat) (rs : List (List Rat)) (ps : List Nat), redL (cs ++ ds) rs ps = redL ds (redL cs rs ps).1 (redL cs rs ps).2
  | [], _, _, _ => rfl
  | c :: cs, ds, rs, ps => by
    cases hf : fstNZ rs c ps.length with
    | none => rw [List.cons_append, red_none hf, red_none hf]; exact red_app cs ds rs ps
    | some f => rw [List.cons_append, red_some hf, red_some hf]; exact red_app cs ds _ _
theorem join_alike {m : List (List Rat)} {b : List Rat} {w : Nat} (h : m.length = b.length) (hW : Wid w m) : Alike w m (joinR m b) := by
  refine ⟨(join_len h).symm, fun k hk j hj => ?_⟩
  unfold ent
  rw [join_row hk (by omega), gtR_app (by rw [hW _ (rowR_mem hk)]; exact hj)]
/-- the pivots with the column behind: the matrix's own, or one more -/
theorem piv_join {m : List (List Rat)} {b : List Rat} {w : Nat} (h : m.length = b.length) (hW : Wid w m) : pivM (joinR m b) (w + 1) = pivM m w ∨ pivM (joinR m b) (w + 1) = pivM m w ++ [w] := by
  have e1 : (redL (List.range' 0 w) m []).2 = (redL (List.range' 0 w) (joinR m b) []).2 := red_alike (w1 := w) (w2 := w + 1) (Nat.le_refl _) (Nat.le_succ _) _ m (joinR m b) [] (fun c hc => by have := (List.mem_range'_1.mp hc).2; omega) hW (join_wid h hW) (join_alike h hW) (Nat.zero_le _)
  show (redL (List.range' 0 (w + 1)) (joinR m b) []).2 = (redL (List.range' 0 w) m []).2 ∨ (redL (List.range' 0 (w + 1)) (joinR m b) []).2 = (redL (List.range' 0 w) m []).2 ++ [w]
  rw [List.range'_concat, Nat.zero_add, Nat.one_mul, red_app, e1]
  generalize redL (List.range' 0 w) (joinR m b) [] = p
  cases hf : fstNZ p.1 w p.2.length with
  | none => rw [red_none hf]; exact .inl rfl
  | some f => rw [red_some hf]; exact .inr rfl
theorem piv_lt {m : List (List Rat)} {w c : Nat} (hW : Wid w m) (hc : c ∈ pivM m w) : c < w := (show RInv w w (redA m w).1 (pivM m w) from redA_inv hW).lt hc
theorem piv_in {m : List (List Rat)} {b : List Rat} {w : Nat} (h : m.length = b.length) (hW : Wid w m) : w ∈ pivM (joinR m b) (w + 1) ↔ pivM (joinR m b) (w + 1) ≠ pivM m w := by
  rcases piv_join h hW with e | e
  · rw [e]
    exact ⟨fun hw => absurd (piv_lt hW hw) (Nat.lt_irrefl _), fun hn => absurd rfl hn⟩
  · rw [e]
    exact ⟨fun _ z => by have := congrArg List.length z; rw [List.length_append, List.length_singleton] at this; omega, fun _ => by simp⟩
/-! numbers put at places -/
def gst (g : Nat → Rat) : Nat → List Nat → List Rat → List Rat
  | _, [], v => v
  | i, p :: ps, v => gst g (i + 1) ps (v.set p (g i))
theorem gst_len (g : Nat → Rat) : ∀ (ps : List Nat) (i : Nat) (v : List Rat), (gst g i ps v).length = v.length
  | [], _, _ => rfl
  | p :: ps, i, v => by
    show (gst g (i + 1) ps (v.set p _)).length = _
    rw [gst_len g ps, List.length_set]
theorem gst_out {g : Nat → Rat} {j : Nat} : ∀ (ps : List Nat) (i : Nat) (v : List Rat), j < v.length → j ∉ ps → gtR (gst g i ps v) j = gtR v j
  | [], _, _, _, _ => rfl
  | p :: ps, i, v, hj, hn => by
    show gtR (gst g (i + 1) ps (v.set p _)) j = _
    rw [gst_out ps (i + 1) _ (by rw [List.length_set]; exact hj) fun m => hn (List.mem_cons_of_mem _ m), gtR_set hj, if_neg fun e : j = p => hn (e ▸ List.mem_cons_self)]
theorem gst_in {g : Nat → Rat} : ∀ (ps : List Nat) (i : Nat) (v : List Rat), Inj ps → (∀ p, p ∈ ps → p < v.length) → ∀ k, k < ps.length → gtR (gst g i ps v) (pv ps k) = g (i + k)
  | [], _, _, _, _, k, hk => absurd hk (Nat.not_lt_zero _)
  | p :: ps, i, v, hi, hl, k, hk => by
    obtain ⟨hn, hi2⟩ := hi.tail
    have hp := hl p List.mem_cons_self
    show gtR (gst g (i + 1) ps (v.set p _)) _ = _
    cases k with
    | zero =>
      show gtR (gst g (i + 1) ps (v.set p _)) p = _
      rw [gst_out ps (i + 1) _ (by rw [List.length_set]; exact hp) hn, gtR_set hp, if_pos rfl]; rfl
    | succ k =>
      have := gst_in (g := g) ps (i + 1) (v.set p (g i)) hi2 (fun q hq => by rw [List.length_set]; exact hl q (List.mem_cons_of_mem _ hq)) k (by rw [List.length_cons] at hk; omega)
      rw [show i + (k + 1) = i + 1 + k by omega]; exact this
/-- the solution that is told -/
def solV (j : List (List Rat)) (w : Nat) : List Rat := gst (fun i => ent (redA j (w + 1)).1 i w) 0 (pivM j (w + 1)) (List.replicate w 0)
theorem sol_len (j : List (List Rat)) (w : Nat) : (solV j w).length = w := by unfold solV; rw [gst_len, List.length_replicate]
theorem repl0 {w j : Nat} (h : j < w) : gtR (List.replicate w (0 : Rat)) j = 0 := by unfold gtR; rw [List.getElem?_replicate, if_pos h]; rfl
theorem sol_free {j : List (List Rat)} {w t : Nat} (ht : t < w) (hn : t ∉ pivM j (w + 1)) : gtR (solV j w) t = 0 := by
  unfold solV
  rw [gst_out _ _ _ (by rw [List.length_replicate]; exact ht) hn, repl0 ht]
theorem sol_ker {j : List (List Rat)} {w t : Nat} (hW : Wid (w + 1) j) (hn : w ∉ pivM j (w + 1)) (ht : t < w) : gtR (kerV j (w + 1) w) t = -gtR (solV j w) t := by
  have hR : RInv (w + 1) (w + 1) (redA j (w + 1)).1 (pivM j (w + 1)) := redA_inv hW
  by_cases h : t ∈ pivM j (w + 1)
  · obtain ⟨k, hk, rfl⟩ := mem_pv h
    rw [ker_pv hW hk]
    have := gst_in (g := fun i => ent (redA j (w + 1)).1 i w) (pivM j (w + 1)) 0 (List.replicate w 0) hR.inj (fun p hp => by
      rw [List.length_replicate]
      have h1 := hR.lt hp
      have h2 : p ≠ w := fun e => hn (e ▸ hp)
      omega) k hk
    rw [Nat.zero_add] at this
    show _ = -gtR (solV j w) _
    unfold solV
    rw [this]
  · rw [ker_at hW hn (by omega) h, if_neg (by omega), sol_free ht h]; grind
theorem sol_ok {m : List (List Rat)} {b : List Rat} {w k : Nat} (h : m.length = b.length) (hW : Wid w m) (hn : w ∉ pivM (joinR m b) (w + 1)) (hk : k < m.length) : dotR (rowR m k) (solV (joinR m b) w) = gtR b k := by
  have hWj := join_wid h hW
  have hs := ker_sol (f := w) hWj (Nat.lt_succ_self w) hn k (by rw [join_len h]; exact hk)
  have lr := hW _ (rowR_mem hk)
  rw [join_row hk (by omega), dot_sum _ _ (by rw [List.length_append, List.length_singleton, lr, ker_len]), ker_len] at hs
  have e1 : sumR (w + 1) (fun t => gtR (rowR m k ++ [gtR b k]) t * gtR (kerV (joinR m b) (w + 1) w) t) = sumR w (fun t => gtR (rowR m k ++ [gtR b k]) t * gtR (kerV (joinR m b) (w + 1) w) t) + gtR (rowR m k ++ [gtR b k]) w * gtR (kerV (joinR m b) (w + 1) w) w := rfl
  have e2 : gtR (rowR m k ++ [gtR b k]) w = gtR b k := by
    have := gtR_end (rowR m k) (gtR b k)
    rw [lr] at this; exact this
  rw [e1, e2, ker_at hWj hn (Nat.lt_succ_self w) hn, if_pos rfl] at hs
  rw [dot_sum _ _ (by rw [lr, sol_len]), sol_len]
  have e3 : (sumR w fun t => gtR (rowR m k ++ [gtR b k]) t * gtR (kerV (joinR m b) (w + 1) w) t) = sumR w fun t => (-1) * (gtR (rowR m k) t * gtR (solV (joinR m b) w) t) := sum_congr fun t ht => by
    rw [gtR_app (by omega), sol_ker hWj hn ht]; grind
  rw [e3, sum_mulL] at hs
  grind
/-! sizes with a column behind that is larger -/
def SzW (n e E w : Nat) (rs : List (List Rat)) : Prop := ∃ B, 0 < B ∧ B ≤ 2 ^ n ∧ ∀ r, r ∈ rs → (∀ j, j < w → CD B (2 ^ n) (gtR r j)) ∧ CD (B * E) (2 ^ (n + e)) (gtR r w)
theorem SzW.sub {n e E w : Nat} {rs rs2 : List (List Rat)} (h : SzW n e E w rs) (s : ∀ r, r ∈ rs2 → r ∈ rs) : SzW n e E w rs2 := by
  obtain ⟨B, h0, h1, h2⟩ := h
  exact ⟨B, h0, h1, fun r hr => h2 r (s r hr)⟩
theorem SzW.bt {n e E w : Nat} {rs : List (List Rat)} (hE0 : 0 < E) (hE : E ≤ 2 ^ e) (hW : Wid (w + 1) rs) (h : SzW n e E w rs) : Btm (n + e) rs := fun r hr x hx => by
  obtain ⟨B, h0, h1, h2⟩ := h
  obtain ⟨j, hj, rfl⟩ := List.getElem_of_mem hx
  have ex : r[j] = gtR r j := by unfold gtR; rw [List.getElem?_eq_getElem hj]; rfl
  rw [ex]
  have lw := hW r hr
  obtain ⟨c1, c2⟩ := h2 r hr
  by_cases e1 : j < w
  · exact ((c1 j e1).bt h0 h1 (Nat.le_refl _)).mono (by omega)
  · have : j = w := by omega
    rw [this]
    exact c2.bt (Nat.mul_pos h0 hE0) (by rw [Nat.pow_add]; exact Nat.mul_le_mul h1 hE) (Nat.le_refl _)
/-- a number divided by the lead -/
theorem div_cd {x y : Rat} {B E N : Nat} {ip : Int} (hB : 0 < B) (hy : y * (B : Rat) = (ip : Rat)) (h0 : y ≠ 0) (hx : CD (B * E) N x) : CD (ip.natAbs * E) N (1 / y * x) := by
  obtain ⟨i, e2, l2⟩ := hx
  have hBr : (B : Rat) ≠ 0 := fun z => by
    have h2 : ((B : Nat) : Rat) = ((0 : Nat) : Rat) := z
    have := Rat.natCast_inj.mp h2
    omega
  rw [Rat.natCast_mul] at e2
  have key : 1 / y * x * ((ip : Rat) * (E : Rat)) = (i : Rat) := by
    rw [← hy, ← e2]; grind
  rcases Int.natAbs_eq ip with h1 | h1
  · refine ⟨i, ?_, l2⟩
    rw [Rat.natCast_mul]
    have : ((ip.natAbs : Nat) : Rat) = ((ip.natAbs : Int) : Rat) := rfl
    rw [this, ← h1]; exact key
  · refine ⟨-i, ?_, by rw [Int.natAbs_neg]; exact l2⟩
    rw [Rat.intCast_neg, ← key, Rat.natCast_mul]
    have : ((ip.natAbs : Nat) : Rat) = ((ip.natAbs : Int) : Rat) := rfl
    have h3 : (ip.natAbs : Int) = -ip := by omega
    rw [this, h3, Rat.intCast_neg]; grind
theorem one_E {B N : Nat} {x : Rat} (h : CD B N x) : CD (B * 1) N x := by rw [Nat.mul_one]; exact h
theorem clr_szW {S : List (List Rat)} {n e E w k0 c : Nat} (hE0 : 0 < E) (hE : E ≤ 2 ^ e) (hw : Wid (w + 1) S) (h0 : k0 < S.length) (hc : c < w) (hz : ent S k0 c ≠ 0) (h : SzW n e E w S) : SzW (2 * n + 1) e E w (clrR S k0 c) ∧ Bts (2 * n + e) (unitOf (rowR S k0) c) ∧ (∀ r, r ∈ S → Bts (2 * n + e) ((unitOf (rowR S k0) c).map (gtR r c * ·))) ∧ Bt n (1 / gtR (rowR S k0) c) := by
  obtain ⟨B, hB, hB2, hC⟩ := h
  have m0 := rowR_mem h0
  have l0 := hw _ m0
  obtain ⟨ip, ey, ly⟩ := (hC _ m0).1 c hc
  have hip : ip.natAbs ≠ 0 := fun z => by
    have : ip = 0 := by omega
    subst this
    have hBr : (B : Rat) ≠ 0 := fun z => by
      have h2 : ((B : Nat) : Rat) = ((0 : Nat) : Rat) := z
      have := Rat.natCast_inj.mp h2
      omega
    rcases Rat.mul_eq_zero.mp (show gtR (rowR S k0) c * (B : Rat) = 0 by rw [ey]; rfl) with h | h
    · exact hz h
    · exact hBr h
  have hP : 0 < ip.natAbs := by omega
  generalize hPd : ip.natAbs = P at hP ly hip
  have u1 : ∀ j, j < w → CD P (2 ^ n) (1 / gtR (rowR S k0) c * gtR (rowR S k0) j) := fun j hj => by
    have := div_cd (E := 1) hB ey hz (one_E ((hC _ m0).1 j hj))
    rw [hPd, Nat.mul_one] at this; exact this
  have u2 : CD (P * E) (2 ^ (n + e)) (1 / gtR (rowR S k0) c * gtR (rowR S k0) w) := by
    have := div_cd hB ey hz (hC _ m0).2
    rw [hPd] at this; exact this
  have e2n : 2 ^ (2 * n) = 2 ^ n * 2 ^ n := by rw [Nat.two_mul, Nat.pow_add]
  have hBP : 0 < B * P := Nat.mul_pos hB hP
  have hBP2 : B * P ≤ 2 ^ (2 * n) := by rw [e2n]; exact Nat.mul_le_mul hB2 ly
  have hBPE : B * P * E ≤ 2 ^ (2 * n + e) := by rw [Nat.pow_add]; exact Nat.mul_le_mul hBP2 hE
  have hPE : P * E ≤ 2 ^ (n + e) := by rw [Nat.pow_add]; exact Nat.mul_le_mul ly hE
  have p1 : ∀ r, r ∈ S → ∀ j, j < w → CD (B * P) (2 ^ (2 * n)) (gtR r c * (1 / gtR (rowR S k0) c * gtR (rowR S k0) j)) := fun r hr j hj => by
    have := ((hC r hr).1 c hc).mul (u1 j hj)
    rw [← e2n] at this; exact this
  have p2 : ∀ r, r ∈ S → CD (B * P * E) (2 ^ (2 * n + e)) (gtR r c * (1 / gtR (rowR S k0) c * gtR (rowR S k0) w)) := fun r hr => by
    have := ((hC r hr).1 c hc).mul u2
    rw [← Nat.mul_assoc] at this
    refine this.mono (Nat.le_of_eq ?_)
    rw [← Nat.pow_add]; congr 1; omega
  have eu : ∀ j, j < w + 1 → gtR (unitOf (rowR S k0) c) j = 1 / gtR (rowR S k0) c * gtR (rowR S k0) j := fun j hj => gtR_mapQ (by omega)
  have le21 : 2 ^ (2 * n) ≤ 2 ^ (2 * n + 1) := Nat.pow_le_pow_right (by decide) (by omega)
  have two : ∀ k, 2 ^ k + 2 ^ k = 2 ^ (k + 1) := fun k => by rw [Nat.pow_succ]; omega
  refine ⟨⟨B * P, hBP, Nat.le_trans hBP2 le21, fun r hr => ?_⟩, fun x hx => ?_, fun r hr x hx => ?_, ?_⟩
  · obtain ⟨k, hk, rfl⟩ := mem_row hr
    rw [clr_len] at hk
    have mk := rowR_mem hk
    have er : ∀ j, j < w + 1 → gtR (rowR (clrR S k0 c) k) j = _ := fun j hj => ent_clr (c := c) hw h0 hk hj
    refine ⟨fun j hj => ?_, ?_⟩
    · rw [er j (by omega)]
      split
      · have := (u1 j hj).mulD B
        rw [Nat.mul_comm P B] at this
        exact this.mono (Nat.le_trans (Nat.mul_le_mul_left _ hB2) (by rw [← e2n]; exact le21))
      · have c1 := (((hC _ mk).1 j hj).mulD P).mono (show 2 ^ n * P ≤ 2 ^ (2 * n) by rw [e2n]; exact Nat.mul_le_mul_left _ ly)
        exact (c1.sub (p1 _ mk j hj)).mono (Nat.le_of_eq (two _))
    · rw [er w (by omega)]
      split
      · have := u2.mulD B
        rw [Nat.mul_comm (P * E) B, ← Nat.mul_assoc] at this
        refine this.mono ?_
        have : 2 ^ (n + e) * B ≤ 2 ^ (n + e) * 2 ^ n := Nat.mul_le_mul_left _ hB2
        rw [← Nat.pow_add] at this
        exact Nat.le_trans this (Nat.pow_le_pow_right (by decide) (by omega))
      · have c1 := (hC _ mk).2.mulD P
        rw [Nat.mul_assoc B E P, Nat.mul_comm E P, ← Nat.mul_assoc] at c1
        have c1' := c1.mono (show 2 ^ (n + e) * P ≤ 2 ^ (2 * n + e) by
          have : 2 ^ (n + e) * P ≤ 2 ^ (n + e) * 2 ^ n := Nat.mul_le_mul_left _ ly
          rw [← Nat.pow_add] at this
          exact Nat.le_trans this (Nat.pow_le_pow_right (by decide) (by omega)))
        exact (c1'.sub (p2 _ mk)).mono (by rw [two]; exact Nat.pow_le_pow_right (by decide) (by omega))
  · obtain ⟨j, hj, rfl⟩ := List.getElem_of_mem hx
    have ex : (unitOf (rowR S k0) c)[j] = gtR (unitOf (rowR S k0) c) j := by unfold gtR; rw [List.getElem?_eq_getElem hj]; rfl
    rw [unit_len, l0] at hj
    rw [ex, eu j hj]
    by_cases hjw : j < w
    · exact ((u1 j hjw).bt hP ly (Nat.le_refl _)).mono (by omega)
    · have : j = w := by omega
      rw [this]
      exact (u2.bt (Nat.mul_pos hP hE0) hPE (Nat.le_refl _)).mono (by omega)
  · obtain ⟨y, hy, rfl⟩ := List.mem_map.mp hx
    obtain ⟨j, hj, rfl⟩ := List.getElem_of_mem hy
    have ex : (unitOf (rowR S k0) c)[j] = gtR (unitOf (rowR S k0) c) j := by unfold gtR; rw [List.getElem?_eq_getElem hj]; rfl
    rw [unit_len, l0] at hj
    rw [ex, eu j hj]
    by_cases hjw : j < w
    · exact ((p1 r hr j hjw).bt hBP hBP2 (Nat.le_refl _)).mono (by omega)
    · have : j = w := by omega
      rw [this]
      exact (p2 r hr).bt (Nat.mul_pos hBP hE0) hBPE (Nat.le_refl _)
  · have b1 : Bt n (gtR (rowR S k0) c) := ((hC _ m0).1 c hc).bt hB hB2 (Nat.le_refl _)
    have := bt_over (n := 0) (m := n) (bt_int (n := 0) (i := 1) (by decide)) b1
    rw [show ((1 : Int) : Rat) = 1 by grind, Nat.zero_add] at this; exact this
/-- the first w columns -/
theorem redok_szW {e E w : Nat} (hE0 : 0 < E) (hE : E ≤ 2 ^ e) : ∀ (cs : List Nat) (rs : List (List Rat)) (ps : List Nat) (n : Nat), (∀ c, c ∈ cs → c < w) → Wid (w + 1) rs → ps.length ≤ rs.length → SzW n e E w rs → (n + 1) * 2 ^ (rs.length - ps.length) + e ≤ 16000001 → RedOk cs rs ps ∧ ∃ n2, SzW n2 e E w (redL cs rs ps).1 ∧ (n2 + 1) * 2 ^ (rs.length - (redL cs rs ps).2.length) ≤ (n + 1) * 2 ^ (rs.length - ps.length)
  | [], rs, ps, n, _, _, _, hS, _ => ⟨trivial, n, hS, Nat.le_refl _⟩
  | c :: cs, rs, ps, n, hcs, hW, hp, hS, hF => by
    have hc := hcs c List.mem_cons_self
    have hcs2 : ∀ c, c ∈ cs → c < w := fun x hx => hcs x (List.mem_cons_of_mem _ hx)
    cases hf : fstNZ rs c ps.length with
    | none =>
      obtain ⟨h1, h2⟩ := redok_szW hE0 hE cs rs ps n hcs2 hW hp hS hF
      rw [red_none hf]
      exact ⟨redok_none hf h1, h2⟩
    | some f =>
      obtain ⟨f1, f2, f3⟩ := fst_some hf
      have hat : ps.length < rs.length := by omega
      obtain ⟨l, hl2⟩ : ∃ l, rs.length - ps.length = l + 1 := ⟨rs.length - ps.length - 1, by omega⟩
      rw [hl2] at hF
      have hS2 : SzW n e E w (swapR rs ps.length f) := hS.sub fun r hr => swap_mem hat f2 hr
      have hW2 := swap_wid hW hat f2
      have lsw := swap_len rs ps.length f
      have lcl := clr_len (swapR rs ps.length f) ps.length c
      have hz : ent (swapR rs ps.length f) ps.length c ≠ 0 := by unfold ent; rw [swap_lead hat f2]; exact f3
      obtain ⟨k1, k2, k3, k4⟩ := clr_szW hE0 hE hW2 (by omega) hc hz hS2
      have hb := hS2.bt hE0 hE hW2
      have e4 : (n + 1) * 2 ^ (l + 1) = (2 * n + 1 + 1) * 2 ^ l := by rw [Nat.pow_succ, Nat.mul_comm (2 ^ l) 2, ← Nat.mul_assoc]; congr 1; omega
      have one : 1 ≤ 2 ^ l := Nat.one_le_two_pow
      have h2n : 2 * n + e ≤ 16000000 := by
        have := Nat.mul_le_mul_left (2 * n + 1 + 1) one
        omega
      have ll : (clrR (swapR rs ps.length f) ps.length c).length - (ps ++ [c]).length = l := by rw [List.length_append, List.length_singleton]; omega
      obtain ⟨h1, n2, h3, h4⟩ := redok_szW hE0 hE cs (clrR (swapR rs ps.length f) ps.length c) (ps ++ [c]) (2 * n + 1) hcs2 (clr_wid hW2 (by omega)) (by rw [List.length_append, List.length_singleton]; omega) k1 (by rw [ll, ← e4]; exact hF)
      rw [red_some hf]
      refine ⟨redok_some hf ⟨fun r hr x hx => (hb r hr x hx).smW (by omega), k4.smW (by omega), fun x hx => (k2 x hx).smW h2n, fun r hr x hx => (k3 r hr x hx).smW h2n⟩ h1, n2, h3, ?_⟩
      rw [ll, ← e4, ← hl2, lcl, lsw] at h4
      exact h4
theorem redok_app : ∀ (cs ds : List Nat) (rs : List (List Rat)) (ps : List Nat), RedOk cs rs ps → RedOk ds (redL cs rs ps).1 (redL cs rs ps).2 → RedOk (cs ++ ds) rs ps
  | [], _, _, _, _, h => h
  | c :: cs, ds, rs, ps, h1, h2 => by
    cases hf : fstNZ rs c ps.length with
    | none => rw [red_none hf] at h2; exact redok_none hf (redok_app cs ds rs ps (h1.none hf) h2)
    | some f => rw [red_some hf] at h2; exact redok_some hf (h1.some hf).1 (redok_app cs ds _ _ (h1.some hf).2 h2)
theorem sm_zero : Sm 0 := ⟨Nat.zero_le _, Nat.one_le_two_pow⟩
theorem sm_one : Sm 1 := ⟨Nat.one_le_two_pow, Nat.one_le_two_pow⟩
/-- a matrix with a column behind it: its steps have room; the numbers told have sizes -/
theorem join_ok {J : List (List Rat)} {n e E w : Nat} (hE0 : 0 < E) (hE : E ≤ 2 ^ e) (hW : Wid (w + 1) J) (hS : SzW n e E w J) (hF : (n + 1) * 2 ^ J.length + e ≤ 16000001) :
    RedOk (List.range' 0 (w + 1)) J [] ∧ (w ∉ pivM J (w + 1) → ∃ B N, 0 < B ∧ B ≤ 2 ^ ((n + 1) * 2 ^ J.length + e) ∧ N ≤ 2 ^ ((n + 1) * 2 ^ J.length + e) ∧ ∀ x, x ∈ solV J w → CD B N x) := by
  have hlt : ∀ c, c ∈ List.range' 0 w → c < w := fun c hc => by have := (List.mem_range'_1.mp hc).2; omega
  obtain ⟨h1, n2, h2, h3⟩ := redok_szW hE0 hE (List.range' 0 w) J [] n hlt hW (Nat.zero_le _) hS hF
  obtain ⟨l1, l2, l3⟩ := red_keeps (List.range' 0 w) J [] hW (Nat.zero_le _)
  have hI : RInv (w + 1) w (redL (List.range' 0 w) J []).1 (redL (List.range' 0 w) J []).2 := by
    have := red_inv (w := w + 1) w 0 J [] (by omega) (RInv.start hW)
    rw [Nat.zero_add] at this; exact this
  have hn2 : n2 + 1 ≤ (n + 1) * 2 ^ J.length := by
    have : (n2 + 1) * 1 ≤ (n2 + 1) * 2 ^ (J.length - (redL (List.range' 0 w) J []).2.length) := Nat.mul_le_mul_left _ Nat.one_le_two_pow
    rw [Nat.mul_one] at this
    exact Nat.le_trans this h3
  have er : List.range' 0 (w + 1) = List.range' 0 w ++ [w] := by rw [List.range'_concat, Nat.zero_add, Nat.one_mul]
  have eA : redA J (w + 1) = redL [w] (redL (List.range' 0 w) J []).1 (redL (List.range' 0 w) J []).2 := by
    show redL (List.range' 0 (w + 1)) J [] = _
    rw [er, red_app]
  have eP : pivM J (w + 1) = (redL [w] (redL (List.range' 0 w) J []).1 (redL (List.range' 0 w) J []).2).2 := congrArg Prod.snd eA
  generalize hp : redL (List.range' 0 w) J [] = p at h2 l1 l2 l3 hI eA eP
  refine ⟨?_, fun hn => ?_⟩
  · rw [er]
    refine redok_app _ _ _ _ h1 ?_
    rw [hp]
    cases hf : fstNZ p.1 w p.2.length with
    | none => exact redok_none hf trivial
    | some f =>
      obtain ⟨f1, f2, f3⟩ := fst_some hf
      have hat : p.2.length < p.1.length := by omega
      have hS2 : SzW n2 e E w (swapR p.1 p.2.length f) := h2.sub fun r hr => swap_mem hat f2 hr
      have hW2 := swap_wid l2 hat f2
      have lsw := swap_len p.1 p.2.length f
      have hb := hS2.bt hE0 hE hW2
      have hsm : ∀ r, r ∈ swapR p.1 p.2.length f → ∀ x, x ∈ r → Sm x := fun r hr x hx => (hb r hr x hx).smW (by omega)
      have hl : rowR (swapR p.1 p.2.length f) p.2.length = rowR p.1 f := swap_lead hat f2
      have lf := l2 _ (rowR_mem f2)
      have y0 : gtR (rowR p.1 f) w ≠ 0 := f3
      have hu : ∀ x, x ∈ unitOf (rowR (swapR p.1 p.2.length f) p.2.length) w → x = 0 ∨ x = 1 := fun x hx => by
        rw [hl] at hx
        obtain ⟨j, hj, rfl⟩ := List.getElem_of_mem hx
        have ex : (unitOf (rowR p.1 f) w)[j] = gtR (unitOf (rowR p.1 f) w) j := by unfold gtR; rw [List.getElem?_eq_getElem hj]; rfl
        rw [unit_len, lf] at hj
        rw [ex, show gtR (unitOf (rowR p.1 f) w) j = 1 / gtR (rowR p.1 f) w * gtR (rowR p.1 f) j from gtR_mapQ (by omega)]
        by_cases e1 : j = w
        · rw [e1]; right; grind
        · have : gtR (rowR p.1 f) j = 0 := hI.zero f f1 f2 j (by omega)
          rw [this]; left; grind
      refine redok_some hf ⟨hsm, ?_, fun x hx => ?_, fun r hr x hx => ?_⟩ trivial
      · rw [hl]
        have mf := mem_swap hat f2 (rowR_mem f2)
        have b1 := hb _ mf _ (gtR_mem (k := w) (by omega)).1
        have := bt_over (n := 0) (m := n2 + e) (bt_int (n := 0) (i := 1) (by decide)) b1
        rw [show ((1 : Int) : Rat) = 1 by grind, Nat.zero_add] at this
        exact this.smW (by omega)
      · rcases hu x hx with rfl | rfl
        · exact sm_zero
        · exact sm_one
      · obtain ⟨y, hy, rfl⟩ := List.mem_map.mp hx
        have lr := hW2 r hr
        rcases hu y hy with rfl | rfl
        · rw [Rat.mul_zero]; exact sm_zero
        · rw [Rat.mul_one]; exact hsm r hr _ (gtR_mem (by omega)).1
  · rw [eP] at hn
    have hf : fstNZ p.1 w p.2.length = none := by
      cases hf : fstNZ p.1 w p.2.length with
      | none => rfl
      | some f => rw [red_some hf] at hn; exact absurd (show w ∈ p.2 ++ [w] by simp) hn
    obtain ⟨B, b0, b1, b2⟩ := h2
    have eR : (redA J (w + 1)).1 = p.1 := by rw [eA, red_none hf]; rfl
    have eQ : pivM J (w + 1) = p.2 := by rw [eP, red_none hf]; rfl
    have le : 2 ^ (n2 + e) ≤ 2 ^ ((n + 1) * 2 ^ J.length + e) := Nat.pow_le_pow_right (by decide) (by omega)
    refine ⟨B * E, 2 ^ (n2 + e), Nat.mul_pos b0 hE0, Nat.le_trans (by rw [Nat.pow_add]; exact Nat.mul_le_mul b1 hE) le, le, fun x hx => ?_⟩
    obtain ⟨j, hj, rfl⟩ := List.getElem_of_mem hx
    have ex : (solV J w)[j] = gtR (solV J w) j := by unfold gtR; rw [List.getElem?_eq_getElem hj]; rfl
    rw [sol_len] at hj
    rw [ex]
    by_cases h : j ∈ pivM J (w + 1)
    · have hR : RInv (w + 1) (w + 1) (redA J (w + 1)).1 (pivM J (w + 1)) := redA_inv hW
      obtain ⟨k, hk, rfl⟩ := mem_pv h
      have := gst_in (g := fun i => ent (redA J (w + 1)).1 i w) (pivM J (w + 1)) 0 (List.replicate w 0) hR.inj (fun q hq => by
        rw [List.length_replicate]
        have h1 := hR.lt hq
        have h2 : q ≠ w := fun e => by rw [eQ] at hq; rw [red_none hf] at hn; exact hn (e ▸ hq)
        omega) k hk
      rw [Nat.zero_add] at this
      show CD _ _ (gtR (solV J w) _)
      unfold solV
      rw [this]
      show CD _ _ (ent (redA J (w + 1)).1 k w)
      rw [eR]
      have hk2 : k < p.1.length := by rw [eQ] at hk; omega
      exact (b2 _ (rowR_mem hk2)).2
    · rw [sol_free hj h]; exact cd_zero
/-! the four conditions -/
def condB (A X : List (List Rat)) (h w : Nat) : Bool :=
  (decide (prodR A X h = transR (prodR A X h) h) && decide (prodR X A w = transR (prodR X A w) w)) && (decide (prodR (prodR A X h) A w = A) && decide (prodR (prodR X A w) X h = X))
structure AX (A X : List (List Rat)) (h w : Nat) : Prop where
  lA : A.length = h
  wA : Wid w A
  lX : X.length = w
  wX : Wid h X
  h4 : h ≤ 4
  w4 : w ≤ 4
  sA : SzM 110 A
  sX : SzM 210 X
theorem SzM.mono {n k : Nat} {m : List (List Rat)} (h : SzM n m) (hk : n ≤ k) : SzM k m := by
  obtain ⟨B, h0, h1, h2⟩ := h
  have e : 2 ^ n ≤ 2 ^ k := Nat.pow_le_pow_right (by decide) hk
  exact ⟨B, h0, Nat.le_trans h1 e, fun r hr x hx => (h2 r hr x hx).mono e⟩
def rankX (f s : List Rat) : List (List Rat) := s.map fun y => f.map fun x => if dotR f f * dotR s s = 0 then 0 else x * y / (dotR f f * dotR s s)
theorem sq_nonneg (x : Rat) : 0 ≤ x * x := by
  rcases (Rat.le_total : (0 : Rat) ≤ x ∨ x ≤ 0) with h | h
  · exact Rat.mul_nonneg h h
  · have h2 : 0 ≤ -x := by grind
    have := Rat.mul_nonneg h2 h2
    have e : -x * -x = x * x := by grind
    rw [e] at this; exact this
theorem dot_nonneg : ∀ f : List Rat, 0 ≤ dotR f f
  | [] => Rat.le_refl
  | x :: f => by
    show 0 ≤ x * x + dotR f f
    have h1 := sq_nonneg x
    have h2 := dot_nonneg f
    grind
theorem dot_zero : ∀ f : List Rat, dotR f f = 0 → ∀ x, x ∈ f → x = 0
  | [], _, x, hx => (nomatch hx)
  | y :: f, h, x, hx => by
    have h1 := sq_nonneg y
    have h2 := dot_nonneg f
    have h3 : y * y + dotR f f = 0 := h
    have h4 : y * y = 0 := by grind
    have h5 : dotR f f = 0 := by grind
    rcases List.mem_cons.mp hx with rfl | hx
    · rcases Rat.mul_eq_zero.mp h4 with h | h <;> exact h
    · exact dot_zero f h5 x hx
theorem rankX_len (f s : List Rat) : (rankX f s).length = s.length := List.length_map ..
theorem rankX_wid (f s : List Rat) : Wid f.length (rankX f s) := fun r hr => by
  obtain ⟨y, _, rfl⟩ := List.mem_map.mp hr
  exact List.length_map ..
theorem rankX_ent {f s : List Rat} {j i : Nat} (hj : j < s.length) (hi : i < f.length) : ent (rankX f s) j i = if dotR f f * dotR s s = 0 then 0 else gtR f i * gtR s j / (dotR f f * dotR s s) := by
  unfold ent
  have e : rowR (rankX f s) j = f.map fun x => if dotR f f * dotR s s = 0 then 0 else x * gtR s j / (dotR f f * dotR s s) := by
    unfold rowR rankX; rw [List.getElem?_map, gtR_some hj]; rfl
  rw [e, gtR_mapQ hi]
theorem rank_one (f s : List Rat) : condB (outerR f s) (rankX f s) f.length s.length = true := by
  have eff : dotR f f = sumR f.length fun k => gtR f k * gtR f k := dot_sum f f rfl
  have ess : dotR s s = sumR s.length fun k => gtR s k * gtR s k := dot_sum s s rfl
  obtain ⟨q, hq, key1, key2⟩ : ∃ q : Rat, (∀ j i, j < s.length → i < f.length → ent (rankX f s) j i = gtR f i * gtR s j * q) ∧ (∀ i j, i < f.length → j < s.length → gtR f i * gtR s j * (dotR s s * q) * dotR f f = gtR f i * gtR s j) ∧ (q * dotR f f * q * dotR s s = q) := by
    by_cases hL : dotR f f * dotR s s = 0
    · refine ⟨0, fun j i hj hi => ?_, fun i j hi hj => ?_, by grind⟩
      · rw [rankX_ent hj hi, if_pos hL]; grind
      · have : gtR f i * gtR s j = 0 := by
          rcases Rat.mul_eq_zero.mp hL with h | h
          · rw [dot_zero f h _ (gtR_mem hi).1]; grind
          · rw [dot_zero s h _ (gtR_mem hj).1]; grind
        rw [this]; grind
    · refine ⟨1 / (dotR f f * dotR s s), fun j i hj hi => ?_, fun i j hi hj => ?_, ?_⟩
      · rw [rankX_ent hj hi, if_neg hL]; grind
      · generalize gtR f i * gtR s j = z
        grind
      · grind
  have hA : ∀ i j, i < f.length → j < s.length → ent (outerR f s) i j = gtR f i * gtR s j := fun i j hi hj => outer_ent hi hj
  have lA := outer_len f s
  have wA := outer_wid f s
  have lX := rankX_len f s
  have wX := rankX_wid f s
  have wA2 : Wid (rankX f s).length (outerR f s) := by rw [lX]; exact wA
  have wX2 : Wid (outerR f s).length (rankX f s) := by rw [lA]; exact wX
  have eL : ∀ i k, i < f.length → k < f.length → ent (prodR (outerR f s) (rankX f s) f.length) i k = gtR f i * gtR f k * (dotR s s * q) := fun i k hi hk => by
    rw [ent_prod wA2 (by rw [lA]; exact hi) hk, lX, ess]
    have : (sumR s.length fun j => ent (outerR f s) i j * ent (rankX f s) j k) = sumR s.length fun j => gtR f i * gtR f k * q * (gtR s j * gtR s j) := sum_congr fun j hj => by
      rw [hA i j hi hj, hq j k hj hk]; grind
    rw [this, sum_mulL]; grind
  have eR : ∀ j l, j < s.length → l < s.length → ent (prodR (rankX f s) (outerR f s) s.length) j l = gtR s j * gtR s l * (dotR f f * q) := fun j l hj hl => by
    rw [ent_prod wX2 (by rw [lX]; exact hj) hl, lA, eff]
    have : (sumR f.length fun i => ent (rankX f s) j i * ent (outerR f s) i l) = sumR f.length fun i => gtR s j * gtR s l * q * (gtR f i * gtR f i) := sum_congr fun i hi => by
      rw [hA i l hi hl, hq j i hj hi]; grind
    rw [this, sum_mulL]; grind
  have lL : (prodR (outerR f s) (rankX f s) f.length).length = f.length := by rw [prod_len, lA]
  have lR : (prodR (rankX f s) (outerR f s) s.length).length = s.length := by rw [prod_len, lX]
  have wL := prod_wid (outerR f s) (rankX f s) f.length
  have wR := prod_wid (rankX f s) (outerR f s) s.length
  have c1 : prodR (outerR f s) (rankX f s) f.length = transR (prodR (outerR f s) (rankX f s) f.length) f.length := mat_ext (w := f.length) (by rw [lL, trans_len']) wL (by have := trans_wid' (prodR (outerR f s) (rankX f s) f.length) f.length; rw [lL] at this; exact this) fun i j hi hj => by
    rw [trans_len'] at hi
    rw [ent_trans hi (by rw [lL]; exact hj), eL i j hi hj, eL j i hj hi]; grind
  have c2 : prodR (rankX f s) (outerR f s) s.length = transR (prodR (rankX f s) (outerR f s) s.length) s.length := mat_ext (w := s.length) (by rw [lR, trans_len']) wR (by have := trans_wid' (prodR (rankX f s) (outerR f s) s.length) s.length; rw [lR] at this; exact this) fun i j hi hj => by
    rw [trans_len'] at hi
    rw [ent_trans hi (by rw [lR]; exact hj), eR i j hi hj, eR j i hj hi]; grind
  have c3 : prodR (prodR (outerR f s) (rankX f s) f.length) (outerR f s) s.length = outerR f s := mat_ext (w := s.length) (by rw [prod_len, lL, lA]) (prod_wid _ _ _) wA fun i j hi hj => by
    rw [lA] at hi
    rw [ent_prod (by rw [lA]; exact wL) (by rw [lL]; exact hi) hj, lA, hA i j hi hj]
    have : (sumR f.length fun k => ent (prodR (outerR f s) (rankX f s) f.length) i k * ent (outerR f s) k j) = sumR f.length fun k => gtR f i * gtR s j * (dotR s s * q) * (gtR f k * gtR f k) := sum_congr fun k hk => by
      rw [eL i k hi hk, hA k j hk hj]; grind
    rw [this, sum_mulL, ← eff]; exact key1 i j hi hj
  have c4 : prodR (prodR (rankX f s) (outerR f s) s.length) (rankX f s) f.length = rankX f s := mat_ext (w := f.length) (by rw [prod_len, lR, lX]) (prod_wid _ _ _) wX fun j i hj hi => by
    rw [lX] at hj
    rw [ent_prod (by rw [lX]; exact wR) (by rw [lR]; exact hj) hi, lX, hq j i hj hi]
    have : (sumR s.length fun l => ent (prodR (rankX f s) (outerR f s) s.length) j l * ent (rankX f s) l i) = sumR s.length fun l => gtR f i * gtR s j * (q * dotR f f * q) * (gtR s l * gtR s l) := sum_congr fun l hl => by
      rw [eR j l hj hl, hq l i hl hi]; grind
    rw [this, sum_mulL, ← ess]
    have e : gtR f i * gtR s j * (q * dotR f f * q) * dotR s s = gtR f i * gtR s j * (q * dotR f f * q * dotR s s) := by grind
    rw [e, key2]
  unfold condB
  rw [decide_eq_true c1, decide_eq_true c2, decide_eq_true c3, decide_eq_true c4]; rfl
/-! matrices with their form -/
structure Mt (p q : Nat) (a : List (List Rat)) : Prop where
  len : a.length = p
  wid : Wid q a
theorem Mt.mul {p q s : Nat} {a b : List (List Rat)} (ha : Mt p q a) (hb : Mt q s b) : Mt p s (prodR a b s) := ⟨by rw [prod_len, ha.len], prod_wid a b s⟩
theorem Mt.tr {p q : Nat} {a : List (List Rat)} (ha : Mt p q a) : Mt q p (transR a q) := ⟨trans_len' a q, by have := trans_wid' a q; rw [ha.len] at this; exact this⟩
theorem Mt.id (n : Nat) : Mt n n (identR n) := ⟨ident_len n, ident_wid n⟩
theorem Mt.assoc {p q s t : Nat} {a b c : List (List Rat)} (ha : Mt p q a) (hb : Mt q s b) (hc : Mt s t c) : prodR (prodR a b s) c t = prodR a (prodR b c t) t :=
  prod_assoc (by rw [hb.len]; exact ha.wid) (by rw [hc.len]; exact hb.wid) hc.len.symm
theorem Mt.ext {p q : Nat} {a b : List (List Rat)} (ha : Mt p q a) (hb : Mt p q b) (e : ∀ i j, i < p → j < q → ent a i j = ent b i j) : a = b :=
  mat_ext (w := q) (by rw [ha.len, hb.len]) ha.wid hb.wid fun i j hi hj => e i j (by rw [← hb.len]; exact hi) hj
theorem Mt.ent {p q s : Nat} {a b : List (List Rat)} (ha : Mt p q a) (hb : Mt q s b) {i j : Nat} (hi : i < p) (hj : j < s) : _root_.DL.ent (prodR a b s) i j = sumR q fun k => _root_.DL.ent a i k * _root_.DL.ent b k j := by
  have := ent_prod (w := s) (by rw [hb.len]; exact ha.wid) (by rw [ha.len]; exact hi) hj
  rw [hb.len] at this; exact this
theorem Mt.entT {p q : Nat} {a : List (List Rat)} (ha : Mt p q a) {i j : Nat} (hi : i < q) (hj : j < p) : _root_.DL.ent (transR a q) i j = _root_.DL.ent a j i := ent_trans hi (by rw [ha.len]; exact hj)
theorem Mt.trmul {p q s : Nat} {a b : List (List Rat)} (ha : Mt p q a) (hb : Mt q s b) : transR (prodR a b s) s = prodR (transR b s) (transR a q) p := by
  refine ((ha.mul hb).tr).ext (hb.tr.mul ha.tr) fun i j hi hj => ?_
  rw [(ha.mul hb).entT hi hj, ha.ent hb hj hi, hb.tr.ent ha.tr hi hj]
  exact sum_congr fun k hk => by rw [hb.entT hi hk, ha.entT hk hj, Rat.mul_comm]
theorem Mt.trtr {p q : Nat} {a : List (List Rat)} (ha : Mt p q a) : transR (transR a q) p = a := by
  have := trans_trans ha.wid
  rw [ha.len] at this; exact this
theorem Mt.idL {p q : Nat} {a : List (List Rat)} (ha : Mt p q a) : prodR (identR p) a q = a := by
  have := ident_prod ha.wid
  rw [ha.len] at this; exact this
theorem Mt.idR {p q : Nat} {a : List (List Rat)} (ha : Mt p q a) : prodR a (identR q) q = a := prod_ident ha.wid
/-- an inverse of a symmetric matrix is symmetric -/
theorem Mt.symInv {n : Nat} {g x : List (List Rat)} (hg : Mt n n g) (hx : Mt n n x) (gs : transR g n = g) (r : prodR g x n = identR n) : transR x n = x := by
  have hxt := hx.tr
  have idT : transR (identR n) n = identR n := (Mt.id n).tr.ext (Mt.id n) fun i j hi hj => by
    rw [(Mt.id n).entT hi hj, ent_ident hj hi, ent_ident hi hj]
    by_cases e : i = j
    · rw [if_pos e, if_pos e.symm]
    · rw [if_neg e, if_neg (Ne.symm e)]
  have e1 : prodR (transR x n) g n = identR n := by
    have := hg.trmul hx
    rw [r, idT, gs] at this
    exact this.symm
  calc transR x n = prodR (transR x n) (identR n) n := hxt.idR.symm
    _ = prodR (transR x n) (prodR g x n) n := by rw [r]
    _ = prodR (prodR (transR x n) g n) x n := (hxt.assoc hg hx).symm
    _ = prodR (identR n) x n := by rw [e1]
    _ = x := hx.idL
theorem sum_nonneg (f : Nat → Rat) : ∀ n : Nat, (∀ k, k < n → 0 ≤ f k) → 0 ≤ sumR n f
  | 0, _ => by show (0 : Rat) ≤ 0; grind
  | n + 1, h => by
    have a := sum_nonneg f n fun k hk => h k (by omega)
    have b := h n (by omega)
    show 0 ≤ sumR n f + f n
    grind
theorem sum_pos_zero (f : Nat → Rat) : ∀ n : Nat, (∀ k, k < n → 0 ≤ f k) → sumR n f = 0 → ∀ k, k < n → f k = 0
  | 0, _, _, k, hk => by omega
  | n + 1, h, e, k, hk => by
    have a := sum_nonneg f n fun k hk => h k (by omega)
    have b := h n (by omega)
    have e : sumR n f + f n = 0 := e
    by_cases hn : k = n
    · rw [hn]; grind
    · exact sum_pos_zero f n (fun k hk => h k (by omega)) (by grind) k (by omega)
theorem sq_zero {x : Rat} (h : x * x = 0) : x = 0 := by
  rcases Rat.mul_eq_zero.mp h with h | h <;> exact h
/-- a Gram matrix sends to zero only what the rows send to zero -/
theorem gram {r w : Nat} {f : Nat → Nat → Rat} {x : Nat → Rat} (h : ∀ t, t < r → (sumR r fun s => (sumR w fun j => f t j * f s j) * x s) = 0) : ∀ j, j < w → (sumR r fun t => x t * f t j) = 0 := by
  have e : (sumR w fun j => (sumR r fun t => x t * f t j) * (sumR r fun t => x t * f t j)) = 0 := by
    have e1 : (sumR w fun j => (sumR r fun t => x t * f t j) * (sumR r fun t => x t * f t j)) = sumR w fun j => sumR r fun t => x t * (f t j * sumR r fun s => x s * f s j) := sum_congr fun j _ => by
      rw [← sum_mulR]; exact sum_congr fun t _ => by grind
    rw [e1, sum_swap]
    refine sum_zero _ _ fun t ht => ?_
    rw [sum_mulL]
    have e2 : (sumR w fun j => f t j * sumR r fun s => x s * f s j) = sumR r fun s => (sumR w fun j => f t j * f s j) * x s := by
      have : (sumR w fun j => f t j * sumR r fun s => x s * f s j) = sumR w fun j => sumR r fun s => f t j * f s j * x s := sum_congr fun j _ => by
        rw [← sum_mulL]; exact sum_congr fun s _ => by grind
      rw [this, sum_swap]
      exact sum_congr fun s _ => by rw [← sum_mulR]
    rw [e2, h t ht]; grind
  intro j hj
  exact sq_zero (sum_pos_zero _ w (fun k _ => sq_nonneg _) e j hj)
/-! what the rows span -/
def Spn (w : Nat) (m : List (List Rat)) (u : Nat → Rat) : Prop := ∃ a : Nat → Rat, ∀ j, j < w → u j = sumR m.length fun k => a k * ent m k j
theorem spn_row {w k : Nat} {m : List (List Rat)} (h : k < m.length) : Spn w m fun j => ent m k j := by
  refine ⟨fun t => if t = k then 1 else 0, fun j _ => ?_⟩
  rw [sum_one _ k m.length h fun t _ ht => by show (if t = k then (1 : Rat) else 0) * _ = 0; rw [if_neg ht]; grind]
  show ent m k j = (if k = k then (1 : Rat) else 0) * ent m k j
  rw [if_pos rfl]; grind
theorem Spn.add {w : Nat} {m : List (List Rat)} {u v : Nat → Rat} (h : Spn w m u) (g : Spn w m v) : Spn w m fun j => u j + v j := by
  obtain ⟨a, ha⟩ := h
  obtain ⟨b, hb⟩ := g
  refine ⟨fun k => a k + b k, fun j hj => ?_⟩
  show u j + v j = _
  rw [ha j hj, hb j hj, ← sum_add]
  exact sum_congr fun k _ => by grind
theorem Spn.mul {w : Nat} {m : List (List Rat)} {u : Nat → Rat} (c : Rat) (h : Spn w m u) : Spn w m fun j => c * u j := by
  obtain ⟨a, ha⟩ := h
  refine ⟨fun k => c * a k, fun j hj => ?_⟩
  show c * u j = _
  rw [ha j hj, ← sum_mulL]
  exact sum_congr fun k _ => by grind
theorem Spn.congr {w : Nat} {m : List (List Rat)} {u v : Nat → Rat} (h : Spn w m u) (e : ∀ j, j < w → v j = u j) : Spn w m v := by
  obtain ⟨a, ha⟩ := h
  exact ⟨a, fun j hj => (e j hj).trans (ha j hj)⟩
theorem spn_zero (w : Nat) (m : List (List Rat)) : Spn w m fun _ => 0 := ⟨fun _ => 0, fun j _ => (sum_zero _ _ fun k _ => by grind).symm⟩
theorem spn_sum {w : Nat} {m : List (List Rat)} {f : Nat → Nat → Rat} : ∀ n : Nat, (∀ k, k < n → Spn w m (f k)) → Spn w m fun j => sumR n fun k => f k j
  | 0, _ => spn_zero w m
  | n + 1, h => (spn_sum n fun k hk => h k (by omega)).add (h n (by omega))
/-- rows within the span of others -/
theorem Spn.sub {w : Nat} {a b : List (List Rat)} {u : Nat → Rat} (h : ∀ k, k < a.length → Spn w b fun j => ent a k j) (hu : Spn w a u) : Spn w b u := by
  obtain ⟨c, hc⟩ := hu
  exact (spn_sum (f := fun k j => c k * ent a k j) a.length fun k hk => (h k hk).mul (c k)).congr hc
theorem spn_swap {w i j : Nat} {rs : List (List Rat)} (hi : i < rs.length) (hj : j < rs.length) {u : Nat → Rat} : Spn w (swapR rs i j) u ↔ Spn w rs u := by
  constructor
  · refine Spn.sub fun k hk => ?_
    rw [swap_len] at hk
    by_cases e1 : k = j
    · refine (spn_row hi).congr fun c _ => ?_
      unfold ent; rw [swap_row hi hj hk, if_pos e1]
    · by_cases e2 : k = i
      · refine (spn_row hj).congr fun c _ => ?_
        unfold ent; rw [swap_row hi hj hk, if_neg e1, if_pos e2]
      · refine (spn_row hk).congr fun c _ => ?_
        unfold ent; rw [swap_row hi hj hk, if_neg e1, if_neg e2]
  · refine Spn.sub fun k hk => ?_
    have ls := swap_len rs i j
    by_cases e1 : k = i
    · refine (spn_row (m := swapR rs i j) (k := j) (by omega)).congr fun c _ => ?_
      unfold ent; rw [swap_row hi hj hj, if_pos rfl, e1]
    · by_cases e2 : k = j
      · refine (spn_row (m := swapR rs i j) (k := i) (by omega)).congr fun c _ => ?_
        unfold ent; rw [swap_lead hi hj, e2]
      · refine (spn_row (m := swapR rs i j) (k := k) (by omega)).congr fun c _ => ?_
        unfold ent; rw [swap_row hi hj hk, if_neg e2, if_neg e1]
theorem spn_clr {w k0 c : Nat} {S : List (List Rat)} (hW : Wid w S) (h0 : k0 < S.length) (hz : ent S k0 c ≠ 0) {u : Nat → Rat} : Spn w (clrR S k0 c) u ↔ Spn w S u := by
  have lc := clr_len S k0 c
  have en : ∀ k j, k < S.length → j < w → ent (clrR S k0 c) k j = _ := fun k j hk hj => ent_clr (c := c) hW h0 hk hj
  constructor
  · refine Spn.sub fun k hk => ?_
    rw [lc] at hk
    by_cases e : k = k0
    · refine ((spn_row h0).mul (1 / ent S k0 c)).congr fun j hj => ?_
      rw [en k j hk hj, if_pos e]
    · refine ((spn_row hk).add ((spn_row h0).mul (-(ent S k c * (1 / ent S k0 c))))).congr fun j hj => ?_
      rw [en k j hk hj, if_neg e]; grind
  · refine Spn.sub fun k hk => ?_
    have r0 := spn_row (w := w) (m := clrR S k0 c) (k := k0) (by omega)
    by_cases e : k = k0
    · refine (r0.mul (ent S k0 c)).congr fun j hj => ?_
      rw [en k0 j h0 hj, if_pos rfl, e]; grind
    · refine ((spn_row (w := w) (m := clrR S k0 c) (k := k) (by omega)).add (r0.mul (ent S k c))).congr fun j hj => ?_
      rw [en k j hk hj, en k0 j h0 hj, if_pos rfl, if_neg e]; grind
theorem spn_red {w : Nat} {u : Nat → Rat} : ∀ (n c : Nat) (rs : List (List Rat)) (ps : List Nat), c + n ≤ w → Wid w rs → (Spn w (redL (List.range' c n) rs ps).1 u ↔ Spn w rs u)
  | 0, c, rs, ps, _, _ => Iff.rfl
  | n + 1, c, rs, ps, hc, hW => by
    rw [List.range'_succ]
    cases hf : fstNZ rs c ps.length with
    | none => rw [red_none hf]; exact spn_red n (c + 1) rs ps (by omega) hW
    | some f =>
      rw [red_some hf]
      obtain ⟨f1, f2, f3⟩ := fst_some hf
      have hat : ps.length < rs.length := by omega
      have lsw := swap_len rs ps.length f
      have hW2 := swap_wid hW hat f2
      have hz : ent (swapR rs ps.length f) ps.length c ≠ 0 := by unfold ent; rw [swap_lead hat f2]; exact f3
      exact (spn_red n (c + 1) _ _ (by omega) (clr_wid hW2 (by omega))).trans ((spn_clr hW2 (by omega) hz).trans (spn_swap hat f2))
theorem spn_redA {w : Nat} {m : List (List Rat)} {u : Nat → Rat} (hW : Wid w m) : Spn w (redA m w).1 u ↔ Spn w m u := spn_red w 0 m [] (by omega) hW
/-- a pivot row begins at its pivot -/
structure Ech (w : Nat) (rs : List (List Rat)) (ps : List Nat) : Prop where
  ech : ∀ i, i < ps.length → ∀ j, j < pv ps i → ent rs i j = 0
theorem ech_red {w : Nat} : ∀ (n c : Nat) (rs : List (List Rat)) (ps : List Nat), c + n ≤ w → RInv w c rs ps → Ech w rs ps → Ech w (redL (List.range' c n) rs ps).1 (redL (List.range' c n) rs ps).2
  | 0, c, rs, ps, _, _, h => h
  | n + 1, c, rs, ps, hc, hI, h => by
    rw [List.range'_succ]
    cases hf : fstNZ rs c ps.length with
    | none => rw [red_none hf]; exact ech_red n (c + 1) rs ps (by omega) (hI.skip hf) h
    | some f =>
      rw [red_some hf]
      obtain ⟨f1, f2, f3⟩ := fst_some hf
      have hat : ps.length < rs.length := by omega
      have lsw := swap_len rs ps.length f
      have hW2 := swap_wid hI.wid hat f2
      refine ech_red n (c + 1) _ _ (by omega) (hI.step (by omega) hf) ⟨fun i hi j hj => ?_⟩
      rw [List.length_append, List.length_singleton] at hi
      have hz : ∀ j, j < c → ent (swapR rs ps.length f) ps.length j = 0 := fun j hj => by
        unfold ent; rw [swap_lead hat f2]; exact hI.zero f f1 f2 j hj
      by_cases e : i < ps.length
      · rw [pv_old e] at hj
        have hic := hI.hi i e
        have hil : i < rs.length := by omega
        have hjc : j < c := by omega
        rw [ent_clr hW2 (by omega) (by omega) (by omega), if_neg (by omega), hz j hjc]
        have : ent (swapR rs ps.length f) i j = 0 := by
          unfold ent; rw [swap_row hat f2 hil, if_neg (by omega), if_neg (by omega)]; exact h.ech i e j hj
        rw [this]; grind
      · have ei : i = ps.length := by omega
        rw [ei, pv_new] at hj
        rw [ei, ent_clr hW2 (by omega) (by omega) (by omega), if_pos rfl, hz j hj]; grind
theorem redA_ech {w : Nat} {m : List (List Rat)} (hW : Wid w m) : Ech w (redA m w).1 (pivM m w) :=
  ech_red w 0 m [] (by omega) (RInv.start hW) ⟨fun i hi => absurd hi (Nat.not_lt_zero _)⟩
/-- what is spanned is told by its numbers at the pivots -/
theorem spn_exp {w : Nat} {m : List (List Rat)} {u : Nat → Rat} (hW : Wid w m) (hu : Spn w m u) : ∀ j, j < w → u j = sumR (pivM m w).length fun i => u (pv (pivM m w) i) * ent (redA m w).1 i j := by
  obtain ⟨a, ha⟩ := (spn_redA hW).mpr hu
  have hI : RInv w w (redA m w).1 (pivM m w) := redA_inv hW
  have trunc : ∀ (g : Nat → Rat) (n k : Nat), n ≤ k → (∀ t, n ≤ t → t < k → g t = 0) → sumR k g = sumR n g := by
    intro g n k
    induction k with
    | zero => intro h _; rw [show n = 0 by omega]
    | succ k ih =>
      intro h hz
      by_cases e : n = k + 1
      · rw [e]
      · show sumR k g + g k = _
        rw [ih (by omega) fun t h1 h2 => hz t h1 (by omega), hz k (by omega) (by omega)]; grind
  have cut : ∀ j, j < w → u j = sumR (pivM m w).length fun k => a k * ent (redA m w).1 k j := fun j hj => by
    rw [ha j hj]
    refine trunc _ _ _ hI.len fun t h1 h2 => ?_
    show a t * ent (redA m w).1 t j = 0
    rw [hI.zero t h1 h2 j hj]; grind
  have ap : ∀ i, i < (pivM m w).length → u (pv (pivM m w) i) = a i := fun i hi => by
    rw [cut _ (hI.lt (pv_mem hi)), sum_one _ i _ hi fun k hk hne => by
      show a k * ent (redA m w).1 k _ = 0
      rw [hI.unit i hi k (by have := hI.len; omega), if_neg hne]; grind]
    rw [hI.unit i hi i (by have := hI.len; omega), if_pos rfl]; grind
  intro j hj
  rw [cut j hj]
  exact sum_congr fun i hi => by rw [ap i hi]
/-- where something spanned begins, there is a pivot -/
theorem lead_piv {w c : Nat} {m : List (List Rat)} {u : Nat → Rat} (hW : Wid w m) (hu : Spn w m u) (hc : c < w) (h0 : ∀ j, j < c → u j = 0) (h1 : u c ≠ 0) : c ∈ pivM m w := by
  have hI : RInv w w (redA m w).1 (pivM m w) := redA_inv hW
  have hE := redA_ech hW
  by_cases hp : c ∈ pivM m w
  · exact hp
  · refine absurd ?_ h1
    rw [spn_exp hW hu c hc]
    refine sum_zero _ _ fun i hi => ?_
    have hne : pv (pivM m w) i ≠ c := fun e => hp (e ▸ pv_mem hi)
    by_cases hlt : pv (pivM m w) i < c
    · rw [h0 _ hlt]; grind
    · rw [hE.ech i hi c (by omega)]; grind
/-- and each pivot is such a beginning -/
theorem piv_lead {w c : Nat} {m : List (List Rat)} (hW : Wid w m) (hc : c ∈ pivM m w) : ∃ u, Spn w m u ∧ (∀ j, j < c → u j = 0) ∧ u c = 1 := by
  have hI : RInv w w (redA m w).1 (pivM m w) := redA_inv hW
  have hE := redA_ech hW
  obtain ⟨i, hi, rfl⟩ := mem_pv hc
  have hil : i < (redA m w).1.length := by have := hI.len; omega
  refine ⟨fun j => ent (redA m w).1 i j, (spn_redA hW).mp (spn_row hil), fun j hj => hE.ech i hi j hj, ?_⟩
  have := hI.unit i hi i hil
  rw [if_pos rfl] at this
  exact this
theorem piv_sub {w : Nat} {a b : List (List Rat)} (ha : Wid w a) (hb : Wid w b) (h : ∀ u, Spn w a u → Spn w b u) : ∀ c, c ∈ pivM a w → c ∈ pivM b w := fun c hc => by
  obtain ⟨u, h1, h2, h3⟩ := piv_lead ha hc
  refine lead_piv hb (h u h1) ?_ h2 (by rw [h3]; decide)
  exact (show RInv w w (redA a w).1 (pivM a w) from redA_inv ha).lt hc
theorem len_sub : ∀ (ps qs : List Nat), Inj ps → (∀ p, p ∈ ps → p ∈ qs) → ps.length ≤ qs.length
  | [], _, _, _ => Nat.zero_le _
  | p :: ps, qs, hi, hs => by
    obtain ⟨hn, hi2⟩ := hi.tail
    have hp := hs p List.mem_cons_self
    have := len_sub ps (qs.erase p) hi2 fun q hq => (List.mem_erase_of_ne fun e : q = p => hn (e ▸ hq)).mpr (hs q (List.mem_cons_of_mem _ hq))
    rw [List.length_erase_of_mem hp] at this
    have : 0 < qs.length := List.length_pos_of_mem hp
    rw [List.length_cons]; omega
theorem len_sub_lt {ps qs : List Nat} {q : Nat} (hi : Inj ps) (hs : ∀ p, p ∈ ps → p ∈ qs) (hq : q ∈ qs) (hn : q ∉ ps) : ps.length < qs.length := by
  have := len_sub ps (qs.erase q) hi fun p hp => (List.mem_erase_of_ne fun e : p = q => hn (e ▸ hp)).mpr (hs p hp)
  rw [List.length_erase_of_mem hq] at this
  have : 0 < qs.length := List.length_pos_of_mem hq
  omega
theorem rank_le {w : Nat} {a b : List (List Rat)} (ha : Wid w a) (hb : Wid w b) (h : ∀ u, Spn w a u → Spn w b u) : (pivM a w).length ≤ (pivM b w).length :=
  len_sub _ _ (show RInv w w (redA a w).1 (pivM a w) from redA_inv ha).inj (piv_sub ha hb h)
theorem rank_lt {w : Nat} {a b : List (List Rat)} {v : Nat → Rat} (ha : Wid w a) (hb : Wid w b) (h : ∀ u, Spn w a u → Spn w b u) (hv : Spn w b v) (hn : ¬ Spn w a v) : (pivM a w).length < (pivM b w).length := by
  have hI : RInv w w (redA a w).1 (pivM a w) := redA_inv ha
  have rowS : ∀ i, i < (pivM a w).length → Spn w a fun j => ent (redA a w).1 i j := fun i hi => (spn_redA ha).mp (spn_row (by have := hI.len; omega))
  -- what is left of v
  have left : ∃ z : Nat → Rat, Spn w b z ∧ (∀ i, i < (pivM a w).length → z (pv (pivM a w) i) = 0) ∧ ∃ j, j < w ∧ z j ≠ 0 := by
    have sumS : Spn w a fun j => sumR (pivM a w).length fun i => v (pv (pivM a w) i) * ent (redA a w).1 i j := spn_sum (f := fun i j => v (pv (pivM a w) i) * ent (redA a w).1 i j) _ fun i hi => (rowS i hi).mul _
    refine ⟨fun j => v j + (-1) * sumR (pivM a w).length fun i => v (pv (pivM a w) i) * ent (redA a w).1 i j, hv.add ((h _ sumS).mul (-1)), fun i hi => ?_, ?_⟩
    · show v _ + (-1) * sumR _ _ = 0
      rw [sum_one _ i _ hi fun k hk hne => by
        show v (pv (pivM a w) k) * ent (redA a w).1 k (pv (pivM a w) i) = 0
        rw [hI.unit i hi k (by have := hI.len; omega), if_neg hne]; grind]
      rw [hI.unit i hi i (by have := hI.len; omega), if_pos rfl]; grind
    · by_cases hz : ∀ j, j < w → v j + (-1) * (sumR (pivM a w).length fun i => v (pv (pivM a w) i) * ent (redA a w).1 i j) = 0
      · exact absurd (sumS.congr fun j hj => by have := hz j hj; grind) hn
      · exact Classical.byContradiction fun hno => hz fun j hj => Classical.byContradiction fun hne => hno ⟨j, hj, hne⟩
  obtain ⟨z, z1, z2, j0, hj0, hz0⟩ := left
  -- where it begins
  have beg : ∀ n : Nat, n ≤ w → (∃ j, j < n ∧ z j ≠ 0) → ∃ c, c < n ∧ (∀ j, j < c → z j = 0) ∧ z c ≠ 0 := by
    intro n
    induction n with
    | zero => intro _ ⟨j, hj, _⟩; omega
    | succ n ih =>
      intro hn2 ⟨j, hj, hne⟩
      by_cases he : ∃ j, j < n ∧ z j ≠ 0
      · obtain ⟨c, c1, c2, c3⟩ := ih (by omega) he
        exact ⟨c, by omega, c2, c3⟩
      · refine ⟨n, by omega, fun t ht => Classical.byContradiction fun hne2 => he ⟨t, ht, hne2⟩, ?_⟩
        by_cases e : j = n
        · rw [← e]; exact hne
        · exact absurd ⟨j, by omega, hne⟩ he
  obtain ⟨c, c1, c2, c3⟩ := beg w (Nat.le_refl _) ⟨j0, hj0, hz0⟩
  have hcb := lead_piv hb z1 c1 c2 c3
  refine len_sub_lt hI.inj (piv_sub ha hb h) hcb fun hca => ?_
  obtain ⟨i, hi, e⟩ := mem_pv hca
  exact c3 (e ▸ z2 i hi)
/-! which vectors rows span: by the solution for the transposed matrix -/
theorem piv_sol {W c : Nat} {J : List (List Rat)} (hW : Wid W J) (hc : c ∈ pivM J W) {z : Nat → Rat} (hz : ∀ k, k < J.length → (sumR W fun j => ent J k j * z j) = 0) (z0 : ∀ j, c < j → j < W → z j = 0) : z c = 0 := by
  obtain ⟨u, ⟨a, ha⟩, u0, u1⟩ := piv_lead hW hc
  have hcW := piv_lt hW hc
  have e1 : (sumR W fun j => u j * z j) = z c := by
    rw [sum_one _ c W hcW fun j hj hne => ?_]
    · show u c * z c = z c
      rw [u1]; grind
    · show u j * z j = 0
      by_cases h : j < c
      · rw [u0 j h]; grind
      · rw [z0 j (by omega) hj]; grind
  have e2 : (sumR W fun j => u j * z j) = 0 := by
    have : (sumR W fun j => u j * z j) = sumR W fun j => sumR J.length fun k => a k * (ent J k j * z j) := sum_congr fun j hj => by
      rw [ha j hj, ← sum_mulR]; exact sum_congr fun k _ => by grind
    rw [this, sum_swap]
    refine sum_zero _ _ fun k hk => ?_
    rw [sum_mulL, hz k hk]; grind
  rw [← e1, e2]
/-- the columns with the vector behind them -/
def colJ (m : List (List Rat)) (w : Nat) (v : List Rat) : List (List Rat) := joinR (transR m w) v
section
variable {m : List (List Rat)} {w : Nat} {v : List Rat} (hW : Wid w m) (hv : v.length = w)
include hW hv
theorem colJ_len : (colJ m w v).length = w := by unfold colJ; rw [join_len (by rw [trans_len', hv]), trans_len']
theorem colJ_wid : Wid (m.length + 1) (colJ m w v) := join_wid (by rw [trans_len', hv]) (trans_wid' m w)
theorem colJ_ent {k j : Nat} (hk : k < w) (hj : j < m.length) : ent (colJ m w v) k j = ent m j k := by
  unfold colJ ent
  rw [join_row (by rw [trans_len']; exact hk) (by omega), gtR_app (by rw [(trans_wid' m w) _ (rowR_mem (by rw [trans_len']; exact hk))]; exact hj)]
  exact ent_trans hk hj
theorem colJ_end {k : Nat} (hk : k < w) : ent (colJ m w v) k m.length = gtR v k := by
  unfold colJ ent
  rw [join_row (by rw [trans_len']; exact hk) (by omega)]
  have := gtR_end (rowR (transR m w) k) (gtR v k)
  rw [(trans_wid' m w) _ (rowR_mem (by rw [trans_len']; exact hk))] at this
  exact this
theorem colJ_sum {k : Nat} (hk : k < w) (z : Nat → Rat) : (sumR (m.length + 1) fun j => ent (colJ m w v) k j * z j) = (sumR m.length fun j => z j * ent m j k) + gtR v k * z m.length := by
  show (sumR m.length fun j => ent (colJ m w v) k j * z j) + ent (colJ m w v) k m.length * z m.length = _
  rw [colJ_end hW hv hk]
  congr 1
  exact sum_congr fun j hj => by rw [colJ_ent hW hv hk hj]; grind
theorem not_spn (h : m.length ∈ pivM (colJ m w v) (m.length + 1)) : ¬ Spn w m (gtR v) := by
  rintro ⟨a, ha⟩
  have := piv_sol (colJ_wid hW hv) h (z := fun j => if j < m.length then a j else -1) (fun k hk => by
    rw [colJ_len hW hv] at hk
    rw [colJ_sum hW hv hk]
    have e : (sumR m.length fun j => (if j < m.length then a j else -1) * ent m j k) = gtR v k := by
      rw [ha k hk]; exact sum_congr fun j hj => by rw [if_pos hj]
    rw [e, if_neg (Nat.lt_irrefl _)]; grind) (fun j h1 h2 => by omega)
  have : (if m.length < m.length then a m.length else (-1 : Rat)) = 0 := this
  rw [if_neg (Nat.lt_irrefl _)] at this
  revert this; decide
theorem is_spn (h : m.length ∉ pivM (colJ m w v) (m.length + 1)) : ∀ k, k < w → dotR (colR m k) (solV (colJ m w v) m.length) = gtR v k := fun k hk => by
  have := sol_ok (m := transR m w) (b := v) (k := k) (by rw [trans_len', hv]) (trans_wid' m w) h (by rw [trans_len']; exact hk)
  rw [row_trans hk] at this
  exact this
theorem spn_of_sol {x : List Rat} (hx : x.length = m.length) (h : ∀ k, k < w → dotR (colR m k) x = gtR v k) : Spn w m (gtR v) := by
  refine ⟨gtR x, fun k hk => ?_⟩
  rw [← h k hk, dot_sum _ _ (by unfold colR; rw [List.length_map, hx]), hx]
  exact sum_congr fun j hj => by
    rw [show gtR (colR m k) j = ent m j k from gt_map hj]; grind
theorem row_free {k : Nat} (hk : k < m.length) (h : k ∈ pivM (colJ m w v) (m.length + 1)) : ¬ Spn w (m.take k) fun j => ent m k j := by
  rintro ⟨a, ha⟩
  have lt : (m.take k).length = k := by rw [List.length_take]; omega
  have := piv_sol (colJ_wid hW hv) h (z := fun j => if j < k then a j else if j = k then -1 else 0) (fun c hc => by
    rw [colJ_len hW hv] at hc
    rw [colJ_sum hW hv hc, if_neg (by omega), if_neg (by omega)]
    have e : ∀ n, k ≤ n → (sumR (n + 1) fun j => (if j < k then a j else if j = k then -1 else 0) * ent m j c) = (sumR k fun j => a j * ent m j c) - ent m k c := by
      intro n
      induction n with
      | zero =>
        intro h0
        rw [show k = 0 by omega]
        show 0 + (if 0 < 0 then a 0 else if 0 = 0 then (-1 : Rat) else 0) * ent m 0 c = 0 - ent m 0 c
        rw [if_neg (by omega), if_pos rfl]; grind
      | succ n ih =>
        intro h0
        by_cases e : k ≤ n
        · show (sumR (n + 1) fun j => (if j < k then a j else if j = k then -1 else 0) * ent m j c) + (if n + 1 < k then a (n + 1) else if n + 1 = k then (-1 : Rat) else 0) * ent m (n + 1) c = _
          rw [ih e, if_neg (by omega), if_neg (by omega)]; grind
        · have ek : k = n + 1 := by omega
          show (sumR (n + 1) fun j => (if j < k then a j else if j = k then -1 else 0) * ent m j c) + (if n + 1 < k then a (n + 1) else if n + 1 = k then (-1 : Rat) else 0) * ent m (n + 1) c = _
          rw [if_neg (by omega), if_pos ek.symm, ← ek]
          rw [show (sumR k fun j => (if j < k then a j else if j = k then -1 else 0) * ent m j c) = sumR k fun j => a j * ent m j c from sum_congr fun j hj => by rw [if_pos hj]]
          grind
    have e2 := e (m.length - 1) (by omega)
    rw [show m.length - 1 + 1 = m.length by omega] at e2
    have e3 := ha c hc
    rw [lt] at e3
    have e4 : (sumR k fun t => a t * ent (m.take k) t c) = sumR k fun j => a j * ent m j c := sum_congr fun j hj => by
      have : rowR (m.take k) j = rowR m j := by unfold rowR; rw [List.getElem?_take_of_lt hj]
      unfold ent; rw [this]
    rw [e4] at e3
    rw [e2, ← e3]; grind) (fun j h1 h2 => by
      show (if j < k then a j else if j = k then (-1 : Rat) else 0) = 0
      rw [if_neg (by omega), if_neg (by omega)])
  have : (if k < k then a k else if k = k then (-1 : Rat) else 0) = 0 := this
  rw [if_neg (Nat.lt_irrefl _), if_pos rfl] at this
  revert this; decide
end
/-- a row more -/
theorem row_app {m : List (List Rat)} {r : List Rat} {k : Nat} : rowR (m ++ [r]) k = if k = m.length then r else rowR m k := by
  unfold rowR
  by_cases e : k < m.length
  · rw [List.getElem?_append_left e, if_neg (by omega)]
  · rw [List.getElem?_append_right (by omega)]
    by_cases e2 : k = m.length
    · rw [if_pos e2, e2, Nat.sub_self]; rfl
    · rw [if_neg e2, List.getElem?_eq_none (by rw [List.length_singleton]; omega), List.getElem?_eq_none (by omega)]
theorem spn_left {w : Nat} {m : List (List Rat)} {r : List Rat} {u : Nat → Rat} (h : Spn w m u) : Spn w (m ++ [r]) u := by
  refine Spn.sub (fun k hk => ?_) h
  refine (spn_row (k := k) (by rw [List.length_append]; omega)).congr fun j _ => ?_
  unfold ent; rw [row_app, if_neg (by omega)]
theorem spn_new {w : Nat} {m : List (List Rat)} {r : List Rat} : Spn w (m ++ [r]) (gtR r) := by
  refine (spn_row (k := m.length) (by rw [List.length_append, List.length_singleton]; omega)).congr fun j _ => ?_
  unfold ent; rw [row_app, if_pos rfl]
theorem spn_old {w : Nat} {m : List (List Rat)} {r : List Rat} {u : Nat → Rat} (hr : Spn w m (gtR r)) (h : Spn w (m ++ [r]) u) : Spn w m u := by
  refine Spn.sub (fun k hk => ?_) h
  rw [List.length_append, List.length_singleton] at hk
  by_cases e : k = m.length
  · refine hr.congr fun j _ => ?_
    unfold ent; rw [row_app, if_pos e]
  · refine (spn_row (k := k) (by omega)).congr fun j _ => ?_
    unfold ent; rw [row_app, if_neg e]
theorem wid_app {w : Nat} {m : List (List Rat)} {r : List Rat} (h : Wid w m) (hr : r.length = w) : Wid w (m ++ [r]) := fun x hx => by
  rcases List.mem_append.mp hx with h1 | h1
  · exact h x h1
  · rw [List.mem_singleton.mp h1]; exact hr
theorem rank_same {w : Nat} {m : List (List Rat)} {r : List Rat} (h : Wid w m) (hr : r.length = w) (hs : Spn w m (gtR r)) : (pivM (m ++ [r]) w).length = (pivM m w).length :=
  Nat.le_antisymm (rank_le (wid_app h hr) h fun u hu => spn_old hs hu) (rank_le h (wid_app h hr) fun u hu => spn_left hu)
theorem rank_more {w : Nat} {m : List (List Rat)} {r : List Rat} (h : Wid w m) (hr : r.length = w) (hs : ¬ Spn w m (gtR r)) : (pivM m w).length < (pivM (m ++ [r]) w).length :=
  rank_lt h (wid_app h hr) (fun u hu => spn_left hu) spn_new hs
theorem take_app {m : List (List Rat)} {k : Nat} (h : k < m.length) : m.take (k + 1) = m.take k ++ [rowR m k] := by
  rw [List.take_succ, List.getElem?_eq_getElem h]
  unfold rowR; rw [List.getElem?_eq_getElem h]; rfl
theorem piv_nil (w : Nat) : pivM [] w = [] := by
  have h := (red_keeps (w := w) (List.range' 0 w) [] [] (fun _ hr => nomatch hr) (Nat.le_refl _)).2.2
  exact List.length_eq_zero_iff.mp (Nat.le_zero.mp h)
/-- the told solution has a size -/
theorem sol_szv {J : List (List Rat)} {w n : Nat} (hW : Wid (w + 1) J) (hS : SzM n J) (hn : w ∉ pivM J (w + 1)) : ∃ n2, n2 + 1 = (n + 1) * 2 ^ (pivM J (w + 1)).length ∧ SzV n2 (solV J w) := by
  obtain ⟨n2, ⟨B, b0, b1, bc⟩, e⟩ := redA_sz hW hS
  refine ⟨n2, e, B, b0, b1, fun x hx => ?_⟩
  have hR : RInv (w + 1) (w + 1) (redA J (w + 1)).1 (pivM J (w + 1)) := redA_inv hW
  obtain ⟨j, hj, rfl⟩ := List.getElem_of_mem hx
  have ex : (solV J w)[j] = gtR (solV J w) j := by unfold gtR; rw [List.getElem?_eq_getElem hj]; rfl
  rw [sol_len] at hj
  rw [ex]
  by_cases h : j ∈ pivM J (w + 1)
  · obtain ⟨k, hk, rfl⟩ := mem_pv h
    have := gst_in (g := fun i => ent (redA J (w + 1)).1 i w) (pivM J (w + 1)) 0 (List.replicate w 0) hR.inj (fun q hq => by
      rw [List.length_replicate]
      have h1 := hR.lt hq
      have h2 : q ≠ w := fun e => hn (e ▸ hq)
      omega) k hk
    rw [Nat.zero_add] at this
    show CD _ _ (gtR (solV J w) _)
    unfold solV
    rw [this]
    have hk2 : k < (redA J (w + 1)).1.length := by have := hR.len; omega
    have mr := rowR_mem hk2
    exact bc _ mr _ (gtR_mem (by rw [hR.wid _ mr]; omega)).1
  · rw [sol_free hj h]; exact cd_zero
/-! one reduced form for a span -/
def Inc (ps : List Nat) : Prop := ∀ i j, i < j → j < ps.length → pv ps i < pv ps j
theorem red_inc : ∀ (n c : Nat) (rs : List (List Rat)) (ps : List Nat), Inc ps → (∀ i, i < ps.length → pv ps i < c) → Inc (redL (List.range' c n) rs ps).2
  | 0, c, rs, ps, h, _ => h
  | n + 1, c, rs, ps, h, hc => by
    rw [List.range'_succ]
    cases hf : fstNZ rs c ps.length with
    | none => rw [red_none hf]; exact red_inc n (c + 1) rs ps h fun i hi => Nat.lt_succ_of_lt (hc i hi)
    | some f =>
      rw [red_some hf]
      refine red_inc n (c + 1) _ _ (fun i j hij hj => ?_) fun i hi => ?_
      · rw [List.length_append, List.length_singleton] at hj
        by_cases e : j < ps.length
        · rw [pv_old e, pv_old (by omega)]; exact h i j hij e
        · have ej : j = ps.length := by omega
          rw [ej, pv_new, pv_old (by omega)]; exact hc i (by omega)
      · rw [List.length_append, List.length_singleton] at hi
        by_cases e : i < ps.length
        · rw [pv_old e]; exact Nat.lt_succ_of_lt (hc i e)
        · have ei : i = ps.length := by omega
          rw [ei, pv_new]; exact Nat.lt_succ_self c
theorem piv_inc (m : List (List Rat)) (w : Nat) : Inc (pivM m w) := red_inc w 0 m [] (fun i j _ hj => absurd hj (Nat.not_lt_zero _)) fun i hi => absurd hi (Nat.not_lt_zero _)
theorem Inc.inj {ps : List Nat} (h : Inc ps) : Inj ps := fun i j hi hj e => by
  rcases Nat.lt_trichotomy i j with l | l | l
  · have := h i j l hj; omega
  · exact l
  · have := h j i l hi; omega
theorem inc_eq {ps qs : List Nat} (hp : Inc ps) (hq : Inc qs) (h1 : ∀ x, x ∈ ps → x ∈ qs) (h2 : ∀ x, x ∈ qs → x ∈ ps) : ps = qs := by
  have l : ps.length = qs.length := Nat.le_antisymm (len_sub ps qs hp.inj h1) (len_sub qs ps hq.inj h2)
  have e : ∀ n i, i < n → i < ps.length → pv ps i = pv qs i := by
    intro n
    induction n with
    | zero => intro i hi; omega
    | succ n ih =>
      intro i hi hil
      have a : pv qs i ≤ pv ps i := by
        obtain ⟨k, hk, ek⟩ := mem_pv (h1 _ (pv_mem hil))
        rcases Nat.lt_trichotomy k i with hlt | heq | hgt
        · have := ih k (by omega) (by omega)
          have := hp k i hlt hil
          omega
        · subst heq; omega
        · have := hq i k hgt hk; omega
      have b : pv ps i ≤ pv qs i := by
        obtain ⟨k, hk, ek⟩ := mem_pv (h2 _ (pv_mem (ps := qs) (i := i) (by omega)))
        rcases Nat.lt_trichotomy k i with hlt | heq | hgt
        · have := ih k (by omega) (by omega)
          have := hq k i hlt (by omega)
          omega
        · subst heq; omega
        · have := hp i k hgt hk; omega
      omega
  refine List.ext_getElem l fun i hi hi2 => ?_
  have := e (i + 1) i (by omega) hi
  unfold pv at this
  rw [List.getElem?_eq_getElem hi, List.getElem?_eq_getElem hi2] at this
  exact this
theorem redM_row {m : List (List Rat)} {w k : Nat} (hk : k < (pivM m w).length) : rowR (redM m w) k = rowR (redA m w).1 k := by
  unfold rowR redM; rw [List.getElem?_take_of_lt (show k < (redA m w).2.length from hk)]
theorem redM_length {m : List (List Rat)} {w : Nat} (hW : Wid w m) : (redM m w).length = (pivM m w).length := by
  have h : RInv w w (redA m w).1 (pivM m w) := redA_inv hW
  have := h.len
  show ((redA m w).1.take (pivM m w).length).length = _
  rw [List.length_take]; omega
theorem redM_wid {m : List (List Rat)} {w : Nat} (hW : Wid w m) : Wid w (redM m w) := fun r hr => (show RInv w w (redA m w).1 (pivM m w) from redA_inv hW).wid r (List.mem_of_mem_take hr)
theorem spn_redM {m : List (List Rat)} {w : Nat} {u : Nat → Rat} (hW : Wid w m) : Spn w (redM m w) u ↔ Spn w m u := by
  have h : RInv w w (redA m w).1 (pivM m w) := redA_inv hW
  have hl := h.len
  have lM := redM_length hW
  refine ⟨fun q => (spn_redA hW).mp ?_, fun q => ?_⟩
  · refine Spn.sub (fun k hk => ?_) q
    rw [lM] at hk
    refine (spn_row (k := k) (by omega)).congr fun j _ => ?_
    unfold ent; rw [redM_row hk]
  · refine Spn.sub (fun k hk => ?_) ((spn_redA hW).mpr q)
    by_cases e : k < (pivM m w).length
    · refine (spn_row (k := k) (by omega)).congr fun j _ => ?_
      unfold ent; rw [redM_row e]
    · exact (spn_zero w _).congr fun j hj => h.zero k (by omega) hk j hj
theorem spn_appL {w : Nat} {a b : List (List Rat)} {u : Nat → Rat} (h : Spn w a u) : Spn w (a ++ b) u := by
  refine Spn.sub (fun k hk => ?_) h
  refine (spn_row (k := k) (by rw [List.length_append]; omega)).congr fun j _ => ?_
  unfold ent rowR; rw [List.getElem?_append_left hk]
theorem spn_appR {w : Nat} {a b : List (List Rat)} {u : Nat → Rat} (h : Spn w b u) : Spn w (a ++ b) u := by
  refine Spn.sub (fun k hk => ?_) h
  refine (spn_row (k := a.length + k) (by rw [List.length_append]; omega)).congr fun j _ => ?_
  unfold ent rowR; rw [List.getElem?_append_right (by omega), Nat.add_sub_cancel_left]
theorem spn_app {w : Nat} {a b : List (List Rat)} {u : Nat → Rat} (h : ∀ u, Spn w b u → Spn w a u) (q : Spn w (a ++ b) u) : Spn w a u := by
  refine Spn.sub (fun k hk => ?_) q
  rw [List.length_append] at hk
  by_cases e : k < a.length
  · refine (spn_row e).congr fun j _ => ?_
    unfold ent rowR; rw [List.getElem?_append_left e]
  · refine h _ ((spn_row (m := b) (k := k - a.length) (by omega)).congr fun j _ => ?_)
    unfold ent rowR; rw [List.getElem?_append_right (by omega)]
theorem wid_cat {w : Nat} {a b : List (List Rat)} (ha : Wid w a) (hb : Wid w b) : Wid w (a ++ b) := fun r hr => by
  rcases List.mem_append.mp hr with h | h
  · exact ha r h
  · exact hb r h
theorem one_span {w : Nat} {a b : List (List Rat)} (ha : Wid w a) (hb : Wid w b) (h : ∀ u, Spn w a u ↔ Spn w b u) : pivM a w = pivM b w ∧ redM a w = redM b w := by
  have e1 : pivM a w = pivM b w := inc_eq (piv_inc a w) (piv_inc b w) (piv_sub ha hb fun u => (h u).mp) (piv_sub hb ha fun u => (h u).mpr)
  refine ⟨e1, ?_⟩
  have hA : RInv w w (redA a w).1 (pivM a w) := redA_inv ha
  have lA := hA.len
  have la := redM_length ha
  have lb := redM_length hb
  refine mat_ext (w := w) (by rw [la, lb, e1]) (redM_wid ha) (redM_wid hb) fun i j hi hj => ?_
  rw [lb] at hi
  have hi' : i < (pivM a w).length := by rw [e1]; exact hi
  have s : Spn w b fun j => ent (redA a w).1 i j := (h _).mp ((spn_redA ha).mp (spn_row (by omega)))
  have x := spn_exp hb s j hj
  unfold ent at x ⊢
  rw [redM_row hi', redM_row hi]
  show gtR (rowR (redA a w).1 i) j = _
  refine x.trans ?_
  rw [sum_one _ i _ hi fun k hk hne => ?_]
  · have := hA.unit i hi' i (by omega)
    rw [if_pos rfl, e1] at this
    show ent (redA a w).1 i (pv (pivM b w) i) * _ = _
    rw [this]; grind
  · have := hA.unit k (by rw [e1]; exact hk) i (by omega)
    rw [if_neg (Ne.symm hne), e1] at this
    show ent (redA a w).1 i (pv (pivM b w) k) * _ = 0
    rw [this]; grind
theorem one_form {w : Nat} {a b : List (List Rat)} (ha : Wid w a) (hb : Wid w b) : ((pivM b w).length = (pivM a w).length ∧ (pivM (a ++ b) w).length = (pivM a w).length) ↔ (pivM a w = pivM b w ∧ redM a w = redM b w) := by
  have hab := wid_cat ha hb
  refine ⟨fun ⟨h1, h2⟩ => one_span ha hb fun u => ⟨fun hu => ?_, fun hu => ?_⟩, fun ⟨h1, h2⟩ => ?_⟩
  · refine Classical.byContradiction fun hn => ?_
    have := rank_lt hb hab (fun u h => spn_appR h) (spn_appL hu) hn
    omega
  · refine Classical.byContradiction fun hn => ?_
    have := rank_lt ha hab (fun u h => spn_appL h) (spn_appR hu) hn
    omega
  · have e : ∀ u, Spn w b u → Spn w a u := fun u hu => by
      rw [← spn_redM ha, h2, spn_redM hb]; exact hu
    refine ⟨by rw [h1], Nat.le_antisymm (rank_le hab ha fun u hu => spn_app e hu) (rank_le ha hab fun u hu => spn_appL hu)⟩
/-! the inverse of a square matrix by the reduced form -/
def invJ (M : List (List Rat)) : List (List Rat) := List.zipWith (fun r u => r ++ u) M (identR M.length)
def invM (M : List (List Rat)) : List (List Rat) := (redM (invJ M) (2 * M.length)).map fun r => r.drop M.length
def NoKer (n : Nat) (M : List (List Rat)) : Prop := ∀ x : Nat → Rat, (∀ i, i < n → (sumR n fun j => ent M i j * x j) = 0) → ∀ j, j < n → x j = 0
section
variable {n : Nat} {M : List (List Rat)} (hM : Mt n n M)
include hM
theorem invJ_row {k : Nat} (hk : k < n) : rowR (invJ M) k = rowR M k ++ rowR (identR n) k := by
  have hl := hM.len
  unfold rowR invJ
  rw [List.getElem?_zipWith, hl, List.getElem?_eq_getElem (show k < M.length by omega), List.getElem?_eq_getElem (show k < (identR n).length by rw [ident_len]; exact hk)]; rfl
theorem invJ_mt : Mt n (2 * n) (invJ M) := by
  have hl := hM.len
  have l : (invJ M).length = n := by unfold invJ; rw [List.length_zipWith, ident_len]; omega
  refine ⟨l, fun r hr => ?_⟩
  obtain ⟨k, hk, rfl⟩ := mem_row hr
  rw [l] at hk
  rw [invJ_row hM hk, List.length_append, hM.wid _ (rowR_mem (by omega)), ident_wid n _ (rowR_mem (by rw [ident_len]; exact hk))]; omega
theorem invJ_l {k j : Nat} (hk : k < n) (hj : j < n) : ent (invJ M) k j = ent M k j := by
  have hl := hM.len
  unfold ent
  rw [invJ_row hM hk]
  unfold gtR; rw [List.getElem?_append_left (by rw [hM.wid _ (rowR_mem (by omega))]; exact hj)]
theorem invJ_r {k j : Nat} (hk : k < n) (hj : j < n) : ent (invJ M) k (n + j) = if j = k then 1 else 0 := by
  have hl := hM.len
  rw [← ent_ident hk hj]
  unfold ent
  rw [invJ_row hM hk]
  have lr := hM.wid _ (rowR_mem (m := M) (i := k) (by omega))
  unfold gtR; rw [List.getElem?_append_right (by omega), lr, Nat.add_sub_cancel_left]
theorem inv_piv0 (hk : NoKer n M) {c : Nat} (hc : c < n) : c ∈ pivM M n := by
  have hl := hM.len
  refine Classical.byContradiction fun hn => ?_
  have hs := ker_sol hM.wid hc hn
  have := hk (fun j => gtR (kerV M n c) j) (fun i hi => by
    have := hs i (by omega)
    rw [dot_sum _ _ (by rw [hM.wid _ (rowR_mem (by omega)), ker_len]), ker_len] at this
    exact this) c hc
  have h1 : gtR (kerV M n c) c = 0 := this
  rw [ker_at hM.wid hn hc hn, if_pos rfl] at h1
  revert h1; decide
theorem inv_piv1 (hk : NoKer n M) {c : Nat} (hc : c < n) : c ∈ pivM (invJ M) (2 * n) := by
  have hl := hM.len
  have hJ := invJ_mt hM
  obtain ⟨u, ⟨a, ha⟩, u0, u1⟩ := piv_lead hM.wid (inv_piv0 hM hk hc)
  rw [hl] at ha
  have e : ∀ j, j < n → (sumR n fun t => a t * ent (invJ M) t j) = u j := fun j hj => by
    rw [ha j hj]; exact sum_congr fun t ht => by rw [invJ_l hM ht hj]
  refine lead_piv (u := fun j => sumR n fun t => a t * ent (invJ M) t j) hJ.wid ⟨a, fun j _ => by rw [hJ.len]⟩ (by omega) (fun j hj => ?_) ?_
  · show (sumR n fun t => a t * ent (invJ M) t j) = 0
    rw [e j (by omega), u0 j hj]
  · show (sumR n fun t => a t * ent (invJ M) t c) ≠ 0
    rw [e c hc, u1]; decide
theorem inv_piv (hk : NoKer n M) : pivM (invJ M) (2 * n) = List.range' 0 n := by
  have hJ := invJ_mt hM
  have pvr : ∀ i, i < n → pv (List.range' 0 n) i = i := fun i hi => by
    unfold pv; rw [List.getElem?_range' hi]; simp
  have inc : Inc (List.range' 0 n) := fun i j hij hj => by
    rw [List.length_range'] at hj
    rw [pvr i (by omega), pvr j hj]; exact hij
  have sub : ∀ x, x ∈ List.range' 0 n → x ∈ pivM (invJ M) (2 * n) := fun x hx => inv_piv1 hM hk (by have := (List.mem_range'_1.mp hx).2; omega)
  refine inc_eq (piv_inc _ _) inc (fun x hx => Classical.byContradiction fun hn => ?_) sub
  have := len_sub_lt inc.inj sub hx hn
  rw [List.length_range'] at this
  have h2 := (red_keeps (List.range' 0 (2 * n)) (invJ M) [] hJ.wid (Nat.zero_le _)).2.2
  have h3 : (pivM (invJ M) (2 * n)).length ≤ n := by rw [hJ.len] at h2; exact h2
  omega
theorem inv_facts (hk : NoKer n M) : (redA (invJ M) (2 * n)).1.length = n ∧ (∀ k i, k < n → i < n → ent (redA (invJ M) (2 * n)).1 k i = if k = i then 1 else 0) ∧ (∀ k j, k < n → j < n → ent (invM M) k j = ent (redA (invJ M) (2 * n)).1 k (n + j)) ∧ Mt n n (invM M) := by
  have hJ := invJ_mt hM
  have hI : RInv (2 * n) (2 * n) (redA (invJ M) (2 * n)).1 (pivM (invJ M) (2 * n)) := redA_inv hJ.wid
  have hp := inv_piv hM hk
  have lR : (redA (invJ M) (2 * n)).1.length = n := (red_keeps (List.range' 0 (2 * n)) (invJ M) [] hJ.wid (Nat.zero_le _)).1.trans hJ.len
  have lM : (redM (invJ M) (2 * n)).length = n := by rw [redM_length hJ.wid, hp, List.length_range']
  have rw_ : ∀ k, k < n → rowR (invM M) k = (rowR (redA (invJ M) (2 * n)).1 k).drop n := fun k hk2 => by
    unfold invM
    rw [hM.len, row_map (by rw [lM]; exact hk2), redM_row (by rw [hp, List.length_range']; exact hk2)]
  refine ⟨lR, fun k i hk2 hi => ?_, fun k j hk2 hj => ?_, ?_, fun r hr => ?_⟩
  · have := hI.unit i (by rw [hp, List.length_range']; exact hi) k (by omega)
    rw [hp] at this
    have e : pv (List.range' 0 n) i = i := by unfold pv; rw [List.getElem?_range' hi]; simp
    rw [e] at this; exact this
  · unfold ent
    rw [rw_ k hk2]
    unfold gtR; rw [List.getElem?_drop]
  · show ((redM (invJ M) (2 * M.length)).map _).length = n
    rw [List.length_map, hM.len, lM]
  · have lm : (invM M).length = n := by
      show ((redM (invJ M) (2 * M.length)).map _).length = n
      rw [List.length_map, hM.len, lM]
    obtain ⟨k, hk2, rfl⟩ := mem_row hr
    rw [lm] at hk2
    rw [rw_ k hk2, List.length_drop, hI.wid _ (rowR_mem (by omega))]; omega
theorem inv_mt (hk : NoKer n M) : Mt n n (invM M) := (inv_facts hM hk).2.2.2
theorem inv_left (hk : NoKer n M) : prodR (invM M) M n = identR n := by
  obtain ⟨lR, f1, f2, hN⟩ := inv_facts hM hk
  have hJ := invJ_mt hM
  refine (hN.mul hM).ext (Mt.id n) fun k j hk2 hj => ?_
  obtain ⟨a, ha⟩ := (spn_redA hJ.wid).mp (spn_row (w := 2 * n) (m := (redA (invJ M) (2 * n)).1) (k := k) (by omega))
  rw [hJ.len] at ha
  have ea : ∀ i, i < n → ent (invM M) k i = a i := fun i hi => by
    rw [f2 k i hk2 hi]
    have := ha (n + i) (by omega)
    rw [show ent (redA (invJ M) (2 * n)).1 k (n + i) = _ from this]
    rw [sum_one _ i n hi fun t ht hne => by
      show a t * ent (invJ M) t (n + i) = 0
      rw [invJ_r hM ht hi, if_neg (Ne.symm hne)]; grind]
    rw [invJ_r hM hi hi, if_pos rfl]; grind
  rw [hN.ent hM hk2 hj, ent_ident hk2 hj]
  have e2 := ha j (by omega)
  have e3 : (sumR n fun t => ent (invM M) k t * ent M t j) = sumR n fun t => a t * ent (invJ M) t j := sum_congr fun t ht => by rw [ea t ht, invJ_l hM ht hj]
  rw [e3, ← e2]
  show ent (redA (invJ M) (2 * n)).1 k j = _
  rw [f1 k j hk2 hj]
  by_cases e : k = j
  · rw [if_pos e, if_pos e.symm]
  · rw [if_neg e, if_neg (Ne.symm e)]
theorem inv_right (hk : NoKer n M) : prodR M (invM M) n = identR n := by
  obtain ⟨lR, f1, f2, hN⟩ := inv_facts hM hk
  have hJ := invJ_mt hM
  refine (hM.mul hN).ext (Mt.id n) fun t i ht hi => ?_
  obtain ⟨b, hb⟩ := (spn_redA hJ.wid).mpr (spn_row (w := 2 * n) (m := invJ M) (k := t) (by rw [hJ.len]; exact ht))
  rw [lR] at hb
  have eb : ∀ j, j < n → ent M t j = b j := fun j hj => by
    rw [← invJ_l hM ht hj]
    have := hb j (by omega)
    rw [show ent (invJ M) t j = _ from this]
    rw [sum_one _ j n hj fun k hk2 hne => by
      show b k * ent (redA (invJ M) (2 * n)).1 k j = 0
      rw [f1 k j hk2 hj, if_neg hne]; grind]
    rw [f1 j j hj hj, if_pos rfl]; grind
  rw [hM.ent hN ht hi, ent_ident ht hi]
  have e2 := hb (n + i) (by omega)
  have e3 : (sumR n fun k => ent M t k * ent (invM M) k i) = sumR n fun k => b k * ent (redA (invJ M) (2 * n)).1 k (n + i) := sum_congr fun k hk2 => by rw [eb k hk2, f2 k i hk2 hi]
  rw [e3, ← e2]
  exact invJ_r hM ht hi
theorem inv_sz {z : Nat} (hS : SzM z M) : ∃ z2, SzM z2 (invM M) ∧ z2 + 1 ≤ (z + 1) * 2 ^ n := by
  have hJ := invJ_mt hM
  have hl := hM.len
  have hSJ : SzM z (invJ M) := by
    obtain ⟨B, b0, b1, bc⟩ := hS
    refine ⟨B, b0, b1, fun r hr x hx => ?_⟩
    obtain ⟨k, hk, rfl⟩ := mem_row hr
    rw [hJ.len] at hk
    rw [invJ_row hM hk] at hx
    rcases List.mem_append.mp hx with h | h
    · exact bc _ (rowR_mem (by omega)) x h
    · obtain ⟨j, hj, rfl⟩ := List.getElem_of_mem h
      have lr := ident_wid n _ (rowR_mem (m := identR n) (i := k) (by rw [ident_len]; exact hk))
      have ex : (rowR (identR n) k)[j] = ent (identR n) k j := by unfold ent gtR; rw [List.getElem?_eq_getElem hj]; rfl
      rw [lr] at hj
      rw [ex, ent_ident hk hj]
      split
      · refine ⟨B, ?_, by rw [Int.natAbs_natCast]; exact b1⟩
        rw [Rat.one_mul]; rfl
      · exact cd_zero
  obtain ⟨z2, h1, h2⟩ := redA_sz hJ.wid hSJ
  refine ⟨z2, ?_, ?_⟩
  · obtain ⟨B, b0, b1, bc⟩ := h1
    refine ⟨B, b0, b1, fun r hr x hx => ?_⟩
    obtain ⟨r0, hr0, rfl⟩ := List.mem_map.mp hr
    rw [hl] at hr0 hx
    exact bc r0 (List.mem_of_mem_take hr0) x (List.mem_of_mem_drop hx)
  · rw [h2]
    have h3 := (red_keeps (List.range' 0 (2 * n)) (invJ M) [] hJ.wid (Nat.zero_le _)).2.2
    rw [hJ.len] at h3
    exact Nat.mul_le_mul_left _ (Nat.pow_le_pow_right (by decide) h3)
theorem invJ_sz {z : Nat} (hS : SzM z M) : SzM z (invJ M) := by
  have hJ := invJ_mt hM
  have hl := hM.len
  obtain ⟨B, b0, b1, bc⟩ := hS
  refine ⟨B, b0, b1, fun r hr x hx => ?_⟩
  obtain ⟨k, hk, rfl⟩ := mem_row hr
  rw [hJ.len] at hk
  rw [invJ_row hM hk] at hx
  rcases List.mem_append.mp hx with h | h
  · exact bc _ (rowR_mem (by omega)) x h
  · obtain ⟨j, hj, rfl⟩ := List.getElem_of_mem h
    have lr := ident_wid n _ (rowR_mem (m := identR n) (i := k) (by rw [ident_len]; exact hk))
    have ex : (rowR (identR n) k)[j] = ent (identR n) k j := by unfold ent gtR; rw [List.getElem?_eq_getElem hj]; rfl
    rw [lr] at hj
    rw [ex, ent_ident hk hj]
    split
    · refine ⟨B, ?_, by rw [Int.natAbs_natCast]; exact b1⟩
      rw [Rat.one_mul]; rfl
    · exact cd_zero
end
/-! the pseudo-inverse from nothing -/
def colsP (A : List (List Rat)) (ps : List Nat) : List (List Rat) := A.map fun row => ps.map fun p => gtR row p
def pinvR (A : List (List Rat)) (w : Nat) : List (List Rat) :=
  if (pivM A w).length = 0 then List.replicate w (List.replicate A.length 0) else
  prodR (transR (redM A w) w) (prodR (prodR (invM (prodR (redM A w) (transR (redM A w) w) (pivM A w).length)) (invM (prodR (transR (colsP A (pivM A w)) (pivM A w).length) (colsP A (pivM A w)) (pivM A w).length)) (pivM A w).length) (transR (colsP A (pivM A w)) (pivM A w).length) A.length) A.length
theorem condB_of {A X : List (List Rat)} {h w : Nat} (h1 : prodR A X h = transR (prodR A X h) h) (h2 : prodR X A w = transR (prodR X A w) w) (h3 : prodR (prodR A X h) A w = A) (h4 : prodR (prodR X A w) X h = X) : condB A X h w = true := by
  unfold condB
  rw [decide_eq_true h1, decide_eq_true h2, decide_eq_true h3, decide_eq_true h4]; rfl
/-- A = C F of full ranks -/
theorem pinv_cf {h w r : Nat} {A C F N1 N2 : List (List Rat)} (hC : Mt h r C) (hF : Mt r w F) (hA : prodR C F w = A) (m1 : Mt r r N1) (m2 : Mt r r N2)
    (g1 : prodR N1 (prodR F (transR F w) r) r = identR r) (g2 : prodR (prodR F (transR F w) r) N1 r = identR r) (k1 : prodR N2 (prodR (transR C r) C r) r = identR r) (k2 : prodR (prodR (transR C r) C r) N2 r = identR r) :
    condB A (prodR (transR F w) (prodR (prodR N1 N2 r) (transR C r) h) h) h w = true := by
  have hT := hF.tr
  have hS := hC.tr
  have mG := hF.mul hT
  have mH := hS.mul hC
  have mA : Mt h w A := hA ▸ hC.mul hF
  have m12 := m1.mul m2
  have mY := m12.mul hS
  have mX := hT.mul mY
  have sG : transR (prodR F (transR F w) r) r = prodR F (transR F w) r := by rw [hF.trmul hT, hF.trtr]
  have sH : transR (prodR (transR C r) C r) r = prodR (transR C r) C r := by rw [hS.trmul hC, hC.trtr]
  have s1 := mG.symInv m1 sG g2
  have s2 := mH.symInv m2 sH k2
  -- the pieces
  have pGY : prodR (prodR F (transR F w) r) (prodR (prodR N1 N2 r) (transR C r) h) h = prodR N2 (transR C r) h := by
    rw [← mG.assoc m12 hS, ← mG.assoc m1 m2, g2, m2.idL]
  have pFX : prodR F (prodR (transR F w) (prodR (prodR N1 N2 r) (transR C r) h) h) h = prodR N2 (transR C r) h := by
    rw [← hF.assoc hT mY, pGY]
  have pSA : prodR (transR C r) A w = prodR (prodR (transR C r) C r) F w := by rw [← hA, ← hS.assoc hC hF]
  have pYA : prodR (prodR (prodR N1 N2 r) (transR C r) h) A w = prodR N1 F w := by
    rw [m12.assoc hS mA, pSA, m1.assoc m2 (mH.mul hF), ← m2.assoc mH hF, k1, hF.idL]
  have pAX : prodR A (prodR (transR F w) (prodR (prodR N1 N2 r) (transR C r) h) h) h = prodR C (prodR N2 (transR C r) h) h := by
    conv => lhs; rw [← hA]
    rw [hC.assoc hF mX, pFX]
  have pXA : prodR (prodR (transR F w) (prodR (prodR N1 N2 r) (transR C r) h) h) A w = prodR (transR F w) (prodR N1 F w) w := by rw [hT.assoc mY mA, pYA]
  have q2 := m2.mul hS
  have q1 := m1.mul hF
  refine condB_of ?_ ?_ ?_ ?_
  · rw [pAX, hC.trmul q2, m2.trmul hS, hC.trtr, s2, hC.assoc m2 hS]
  · rw [pXA, hT.trmul q1, m1.trmul hF, hF.trtr, s1, hT.assoc m1 hF]
  · rw [pAX, hC.assoc q2 mA, m2.assoc hS mA, pSA, ← m2.assoc mH hF, k1, hF.idL]; exact hA
  · rw [pXA, hT.assoc q1 mX, m1.assoc hF mX, pFX, ← m1.assoc m2 hS]
theorem cols_mt {h w : Nat} {A : List (List Rat)} (hA : Mt h w A) (ps : List Nat) : Mt h ps.length (colsP A ps) := ⟨by unfold colsP; rw [List.length_map, hA.len], fun r hr => by
  obtain ⟨row, _, rfl⟩ := List.mem_map.mp hr
  exact List.length_map ..⟩
theorem cols_ent {h w : Nat} {A : List (List Rat)} (hA : Mt h w A) {ps : List Nat} {k t : Nat} (hk : k < h) (ht : t < ps.length) : ent (colsP A ps) k t = ent A k (pv ps t) := by
  have e : rowR (colsP A ps) k = ps.map fun p => gtR (rowR A k) p := row_map (by rw [hA.len]; exact hk)
  unfold ent
  rw [e]
  unfold gtR pv
  rw [List.getElem?_map, List.getElem?_eq_getElem ht]; rfl
section
variable {h w : Nat} {A : List (List Rat)} (hA : Mt h w A)
include hA
theorem red_mt : Mt (pivM A w).length w (redM A w) := ⟨redM_length hA.wid, redM_wid hA.wid⟩
theorem red_unit {t s : Nat} (ht : t < (pivM A w).length) (hs : s < (pivM A w).length) : ent (redM A w) t (pv (pivM A w) s) = if t = s then 1 else 0 := by
  have hI : RInv w w (redA A w).1 (pivM A w) := redA_inv hA.wid
  have := hI.unit s hs t (by have := hI.len; omega)
  unfold ent at this ⊢
  rw [redM_row ht]; exact this
theorem cf_eq : prodR (colsP A (pivM A w)) (redM A w) w = A := by
  have hC := cols_mt hA (pivM A w)
  have hF := red_mt hA
  refine (hC.mul hF).ext hA fun k j hk hj => ?_
  rw [hC.ent hF hk hj]
  have := spn_exp hA.wid (spn_row (w := w) (k := k) (by rw [hA.len]; exact hk)) j hj
  rw [show ent A k j = _ from this]
  exact sum_congr fun t ht => by
    rw [cols_ent hA hk ht]
    show _ * ent (redM A w) t j = _ * ent (redA A w).1 t j
    unfold ent; rw [redM_row ht]
theorem noker_F : NoKer (pivM A w).length (prodR (redM A w) (transR (redM A w) w) (pivM A w).length) := by
  have hF := red_mt hA
  intro x hx j hj
  have g := gram (r := (pivM A w).length) (w := w) (f := fun t j => ent (redM A w) t j) (x := x) (fun t ht => by
    rw [← hx t ht]
    exact sum_congr fun s hs => by
      rw [hF.ent hF.tr ht hs]
      congr 1
      exact sum_congr fun k hk => by rw [hF.entT hk hs]) (pv (pivM A w) j) ((show RInv w w (redA A w).1 (pivM A w) from redA_inv hA.wid).lt (pv_mem hj))
  rw [sum_one _ j _ hj fun t ht hne => by
    show x t * ent (redM A w) t (pv (pivM A w) j) = 0
    rw [red_unit hA ht hj, if_neg hne]; grind] at g
  have g : x j * ent (redM A w) j (pv (pivM A w) j) = 0 := g
  rw [red_unit hA hj hj, if_pos rfl] at g
  grind
theorem noker_C : NoKer (pivM A w).length (prodR (transR (colsP A (pivM A w)) (pivM A w).length) (colsP A (pivM A w)) (pivM A w).length) := by
  have hC := cols_mt hA (pivM A w)
  have hF := red_mt hA
  intro x hx j hj
  have g := gram (r := (pivM A w).length) (w := h) (f := fun t k => ent (colsP A (pivM A w)) k t) (x := x) (fun t ht => by
    rw [← hx t ht]
    exact sum_congr fun s hs => by
      rw [hC.tr.ent hC ht hs]
      congr 1
      exact sum_congr fun k hk => by rw [hC.entT ht hk])
  -- the pivot row j is made of the rows of A
  have hil : j < (redM A w).length := by rw [hF.len]; exact hj
  obtain ⟨a, ha⟩ := (spn_redM hA.wid).mp (spn_row (w := w) (m := redM A w) hil)
  rw [hA.len] at ha
  have hlt : ∀ t, t < (pivM A w).length → pv (pivM A w) t < w := fun t ht => (show RInv w w (redA A w).1 (pivM A w) from redA_inv hA.wid).lt (pv_mem ht)
  have e1 : (sumR (pivM A w).length fun t => ent (redM A w) j (pv (pivM A w) t) * x t) = x j := by
    rw [sum_one _ j _ hj fun t ht hne => by
      show ent (redM A w) j (pv (pivM A w) t) * x t = 0
      rw [red_unit hA hj ht, if_neg (Ne.symm hne)]; grind]
    rw [red_unit hA hj hj, if_pos rfl]; grind
  have e2 : (sumR (pivM A w).length fun t => ent (redM A w) j (pv (pivM A w) t) * x t) = 0 := by
    have : (sumR (pivM A w).length fun t => ent (redM A w) j (pv (pivM A w) t) * x t) = sumR (pivM A w).length fun t => sumR h fun k => a k * (x t * ent (colsP A (pivM A w)) k t) := sum_congr fun t ht => by
      rw [show ent (redM A w) j (pv (pivM A w) t) = _ from ha _ (hlt t ht), ← sum_mulR]
      exact sum_congr fun k hk => by rw [cols_ent hA hk ht]; grind
    rw [this, sum_swap]
    refine sum_zero _ _ fun k hk => ?_
    rw [sum_mulL]
    have := g k hk
    rw [show (sumR (pivM A w).length fun t => x t * ent (colsP A (pivM A w)) k t) = 0 from this]; grind
  rw [← e1, e2]
theorem pinv_mt : Mt w h (pinvR A w) := by
  unfold pinvR
  rw [hA.len]
  split
  · exact ⟨List.length_replicate .., fun r hr => by rw [(List.mem_replicate.mp hr).2]; exact List.length_replicate ..⟩
  · have hC := cols_mt hA (pivM A w)
    have hF := red_mt hA
    exact hF.tr.mul (((inv_mt (hF.mul hF.tr) (noker_F hA)).mul (inv_mt (hC.tr.mul hC) (noker_C hA))).mul hC.tr)
theorem zero_ent {p q i j : Nat} : ent (List.replicate p (List.replicate q (0 : Rat))) i j = 0 := by
  unfold ent gtR rowR
  by_cases hi : i < p
  · rw [List.getElem?_replicate, if_pos hi]
    by_cases hj : j < q
    · show (List.replicate q (0 : Rat))[j]?.getD 0 = 0
      rw [List.getElem?_replicate, if_pos hj]; rfl
    · show (List.replicate q (0 : Rat))[j]?.getD 0 = 0
      rw [List.getElem?_replicate, if_neg hj]; rfl
  · rw [List.getElem?_replicate, if_neg hi]; rfl
theorem pinv_ok : condB A (pinvR A w) h w = true := by
  have hX := pinv_mt hA
  unfold pinvR at hX ⊢
  rw [hA.len] at hX ⊢
  by_cases e : (pivM A w).length = 0
  · rw [if_pos e] at hX ⊢
    have zA : ∀ k j, k < h → j < w → ent A k j = 0 := fun k j hk hj => by
      have := spn_exp hA.wid (spn_row (w := w) (k := k) (by rw [hA.len]; exact hk)) j hj
      rw [e] at this; exact this
    have z1 : ∀ i j, i < h → j < h → ent (prodR A (List.replicate w (List.replicate h 0)) h) i j = 0 := fun i j hi hj => by
      rw [hA.ent hX hi hj]; exact sum_zero _ _ fun k hk => by rw [zA i k hi hk]; grind
    have z2 : ∀ i j, i < w → j < w → ent (prodR (List.replicate w (List.replicate h 0)) A w) i j = 0 := fun i j hi hj => by
      rw [hX.ent hA hi hj]; exact sum_zero _ _ fun k hk => by rw [zA k j hk hj]; grind
    have m1 := hA.mul hX
    have m2 := hX.mul hA
    refine condB_of (m1.ext m1.tr fun i j hi hj => ?_) (m2.ext m2.tr fun i j hi hj => ?_) ((m1.mul hA).ext hA fun i j hi hj => ?_) ((m2.mul hX).ext hX fun i j hi hj => ?_)
    · rw [m1.entT hi hj, z1 i j hi hj, z1 j i hj hi]
    · rw [m2.entT hi hj, z2 i j hi hj, z2 j i hj hi]
    · rw [m1.ent hA hi hj, zA i j hi hj]; exact sum_zero _ _ fun k hk => by rw [z1 i k hi hk]; grind
    · rw [m2.ent hX hi hj, zero_ent hA]; exact sum_zero _ _ fun k hk => by rw [z2 i k hi hk]; grind
  · rw [if_neg e]
    have hC := cols_mt hA (pivM A w)
    have hF := red_mt hA
    have hG := hF.mul hF.tr
    have hH := hC.tr.mul hC
    exact pinv_cf hC hF (cf_eq hA) (inv_mt hG (noker_F hA)) (inv_mt hH (noker_C hA)) (inv_left hG (noker_F hA)) (inv_right hG (noker_F hA)) (inv_left hH (noker_C hA)) (inv_right hH (noker_C hA))
end
/-! pseudo-inverses of symmetric matrices, behind a term more or less -/
def dt (d : Nat) (f g : Nat → Rat) : Rat := sumR d fun k => f k * g k
theorem dt_congr {d : Nat} {f f' g g' : Nat → Rat} (h1 : ∀ k, k < d → f k = f' k) (h2 : ∀ k, k < d → g k = g' k) : dt d f g = dt d f' g' := sum_congr fun k hk => by rw [h1 k hk, h2 k hk]
theorem dt_comm (d : Nat) (f g : Nat → Rat) : dt d f g = dt d g f := sum_congr fun k _ => by rw [Rat.mul_comm]
theorem dt_zero {d : Nat} {f g : Nat → Rat} (h : ∀ k, k < d → f k = 0) : dt d f g = 0 := sum_zero _ _ fun k hk => by rw [h k hk]; grind
theorem dt3 (d : Nat) (f r g u a : Nat → Rat) (x y z : Rat) : dt d (fun k => f k + x * r k) (fun k => g k + y * u k + z * a k) = dt d f g + y * dt d f u + z * dt d f a + x * dt d r g + x * y * dt d r u + x * z * dt d r a := by
  unfold dt
  rw [← sum_mulL y, ← sum_mulL z, ← sum_mulL x, ← sum_mulL (x * y), ← sum_mulL (x * z), ← sum_add, ← sum_add, ← sum_add, ← sum_add, ← sum_add]
  exact sum_congr fun k _ => by grind
theorem dt_assoc (d : Nat) (f : Nat → Rat) (g : Nat → Nat → Rat) (v : Nat → Rat) : dt d f (fun k => dt d (g k) v) = dt d (fun l => dt d f fun k => g k l) v := by
  unfold dt
  have e1 : (sumR d fun k => f k * sumR d fun l => g k l * v l) = sumR d fun k => sumR d fun l => f k * g k l * v l := sum_congr fun k _ => by
    rw [← sum_mulL]; exact sum_congr fun l _ => by grind
  have e2 : (sumR d fun l => (sumR d fun k => f k * g k l) * v l) = sumR d fun l => sumR d fun k => f k * g k l * v l := sum_congr fun l _ => by rw [← sum_mulR]
  rw [e1, e2, sum_swap]
/-- a symmetric matrix, its pseudo-inverse, their product -/
structure Pi (d : Nat) (N X P : Nat → Nat → Rat) : Prop where
  ns : ∀ i j, i < d → j < d → N i j = N j i
  xs : ∀ i j, i < d → j < d → X i j = X j i
  ps : ∀ i j, i < d → j < d → P i j = P j i
  nx : ∀ i j, i < d → j < d → dt d (N i) (fun k => X k j) = P i j
  pn : ∀ i j, i < d → j < d → dt d (P i) (fun k => N k j) = N i j
  px : ∀ i j, i < d → j < d → dt d (P i) (fun k => X k j) = X i j
theorem cond_fun {d : Nat} {N X : List (List Rat)} (mN : Mt d d N) (mX : Mt d d X) {n x p : Nat → Nat → Rat} (en : ∀ i j, i < d → j < d → ent N i j = n i j) (ex : ∀ i j, i < d → j < d → ent X i j = x i j) (h : Pi d n x p) : condB N X d d = true := by
  have mP : Mt d d (bldR d p) := ⟨bld_len d p, bld_wid d p⟩
  have eN : transR N d = N := mN.tr.ext mN fun i j hi hj => by rw [mN.entT hi hj, en j i hj hi, en i j hi hj, h.ns j i hj hi]
  have eX : transR X d = X := mX.tr.ext mX fun i j hi hj => by rw [mX.entT hi hj, ex j i hj hi, ex i j hi hj, h.xs j i hj hi]
  have eP : transR (bldR d p) d = bldR d p := mP.tr.ext mP fun i j hi hj => by rw [mP.entT hi hj, ent_bld hj hi, ent_bld hi hj, h.ps j i hj hi]
  have h1 : prodR N X d = bldR d p := (mN.mul mX).ext mP fun i j hi hj => by
    rw [mN.ent mX hi hj, ent_bld hi hj, ← h.nx i j hi hj]
    exact sum_congr fun k hk => by rw [en i k hi hk, ex k j hk hj]
  have h2 : prodR (bldR d p) N d = N := (mP.mul mN).ext mN fun i j hi hj => by
    rw [mP.ent mN hi hj, en i j hi hj, ← h.pn i j hi hj]
    exact sum_congr fun k hk => by rw [en k j hk hj, ent_bld hi hk]
  have h3 : prodR (bldR d p) X d = X := (mP.mul mX).ext mX fun i j hi hj => by
    rw [mP.ent mX hi hj, ex i j hi hj, ← h.px i j hi hj]
    exact sum_congr fun k hk => by rw [ex k j hk hj, ent_bld hi hk]
  have h4 : prodR X N d = bldR d p := by
    have := mN.trmul mX
    rw [h1, eX, eN, eP] at this; exact this.symm
  refine condB_of ?_ ?_ ?_ ?_
  · rw [h1, eP]
  · rw [h4, eP]
  · rw [h1, h2]
  · rw [h4, h3]
theorem condB_four {A X : List (List Rat)} {h w : Nat} (c : condB A X h w = true) : prodR A X h = transR (prodR A X h) h ∧ prodR X A w = transR (prodR X A w) w ∧ prodR (prodR A X h) A w = A ∧ prodR (prodR X A w) X h = X := by
  unfold condB at c
  simp only [Bool.and_eq_true, decide_eq_true_eq] at c
  exact ⟨c.1.1, c.1.2, c.2.1, c.2.2⟩
/-- there is but one -/
theorem pinv_one {h w : Nat} {A X Y : List (List Rat)} (mA : Mt h w A) (mX : Mt w h X) (mY : Mt w h Y) (cX : condB A X h w = true) (cY : condB A Y h w = true) : X = Y := by
  obtain ⟨x1, x2, x3, x4⟩ := condB_four cX
  obtain ⟨y1, y2, y3, y4⟩ := condB_four cY
  have mAX := mA.mul mX
  have mAY := mA.mul mY
  have mXA := mX.mul mA
  have mYA := mY.mul mA
  -- A X = A Y
  have e1 : prodR A X h = prodR A Y h := by
    have a : prodR (prodR A Y h) (prodR A X h) h = prodR A X h := by rw [← mAY.assoc mA mX, y3]
    have b : prodR (prodR A X h) (prodR A Y h) h = prodR A Y h := by rw [← mAX.assoc mA mY, x3]
    have c : transR (prodR (prodR A X h) (prodR A Y h) h) h = prodR (prodR A Y h) (prodR A X h) h := by
      rw [mAX.trmul mAY, ← x1, ← y1]
    rw [b, ← y1, a] at c
    exact c.symm
  have e2 : prodR X A w = prodR Y A w := by
    have a : prodR (prodR X A w) (prodR Y A w) w = prodR X A w := by rw [mX.assoc mA mYA, ← mA.assoc mY mA, y3]
    have b : prodR (prodR Y A w) (prodR X A w) w = prodR Y A w := by rw [mY.assoc mA mXA, ← mA.assoc mX mA, x3]
    have c : transR (prodR (prodR X A w) (prodR Y A w) w) w = prodR (prodR Y A w) (prodR X A w) w := by
      rw [mXA.trmul mYA, ← x2, ← y2]
    rw [a, ← x2, b] at c
    exact c
  calc X = prodR (prodR X A w) X h := x4.symm
    _ = prodR (prodR Y A w) X h := by rw [e2]
    _ = prodR Y (prodR A X h) h := mY.assoc mA mX
    _ = prodR Y (prodR A Y h) h := by rw [e1]
    _ = prodR (prodR Y A w) Y h := (mY.assoc mA mY).symm
    _ = Y := y4
theorem pi_of {d : Nat} {N X : List (List Rat)} (mN : Mt d d N) (mX : Mt d d X) (sN : transR N d = N) (c : condB N X d d = true) : Pi d (ent N) (ent X) (ent (prodR N X d)) := by
  obtain ⟨x1, x2, x3, x4⟩ := condB_four c
  have mQ := mN.mul mX
  have mP := mX.mul mN
  -- the transposed one is one too
  have cT : condB N (transR X d) d d = true := by
    have t1 : prodR N (transR X d) d = transR (prodR X N d) d := by rw [mX.trmul mN, sN]
    have t2 : prodR (transR X d) N d = transR (prodR N X d) d := by rw [mN.trmul mX, sN]
    refine condB_of ?_ ?_ ?_ ?_
    · rw [t1, ← x2, ← x2]
    · rw [t2, ← x1, ← x1]
    · rw [t1, ← x2]
      have e : prodR N (prodR X N d) d = N := by rw [← mN.assoc mX mN, x3]
      have e2 : transR (prodR N (prodR X N d) d) d = transR N d := by rw [e]
      rw [mN.trmul mP, sN, ← x2] at e2
      exact e2
    · rw [t2, ← x1]
      have e : prodR X (prodR N X d) d = X := by rw [← mX.assoc mN mX, x4]
      have e2 : transR (prodR X (prodR N X d) d) d = transR X d := by rw [e]
      rw [mX.trmul mQ, ← x1] at e2
      exact e2
  have sX : transR X d = X := pinv_one mN mX.tr mX cT c
  have ent_s : ∀ {A : List (List Rat)}, Mt d d A → transR A d = A → ∀ i j, i < d → j < d → ent A i j = ent A j i := fun {A} mA e i j hi hj => by
    have := mA.entT hi hj
    rw [e] at this; exact this
  have e4 : prodR (prodR N X d) X d = X := by
    have h : prodR X N d = prodR N X d := by
      have := mX.trmul mN
      rw [← x2, sN, sX] at this; exact this
    rw [← h]; exact x4
  refine ⟨ent_s mN sN, ent_s mX sX, ent_s mQ x1.symm, fun i j hi hj => (mN.ent mX hi hj).symm, fun i j hi hj => ?_, fun i j hi hj => ?_⟩
  · have := mQ.ent mN hi hj
    rw [x3] at this; exact this.symm
  · have := mQ.ent mX hi hj
    rw [e4] at this; exact this.symm
section
variable {d : Nat} {N X P : Nat → Nat → Rat} (h : Pi d N X P) {r a : Nat → Rat}
include h
theorem Pi.pp {i j : Nat} (hi : i < d) (hj : j < d) : dt d (P i) (fun k => P k j) = P i j := by
  have e : dt d (P i) (fun k => P k j) = dt d (P i) (fun k => dt d (N k) fun l => X l j) := dt_congr (fun _ _ => rfl) fun k hk => (h.nx k j hk hj).symm
  rw [e, dt_assoc, ← h.nx i j hi hj]
  exact dt_congr (fun l hl => h.pn i l hi hl) fun _ _ => rfl
theorem Pi.na (ha : ∀ i, i < d → a i = dt d (X i) r) {i : Nat} (hi : i < d) : dt d (N i) a = dt d (P i) r := by
  rw [dt_congr (fun _ _ => rfl) fun k hk => ha k hk, dt_assoc]
  exact dt_congr (fun l hl => h.nx i l hi hl) fun _ _ => rfl
theorem Pi.pa (ha : ∀ i, i < d → a i = dt d (X i) r) {i : Nat} (hi : i < d) : dt d (P i) a = a i := by
  rw [dt_congr (fun _ _ => rfl) fun k hk => ha k hk, dt_assoc, ha i hi]
  exact dt_congr (fun l hl => h.px i l hi hl) fun _ _ => rfl
theorem Pi.xr (ha : ∀ i, i < d → a i = dt d (X i) r) {j : Nat} (hj : j < d) : dt d r (fun k => X k j) = a j := by
  rw [ha j hj, dt_comm]
  exact dt_congr (fun k hk => h.xs k j hk hj) fun _ _ => rfl
/-- a term within the span: added (or removed, with a negative weight) -/
theorem Pi.inside {q c s : Rat} (ha : ∀ i, i < d → a i = dt d (X i) r) (hs : s = dt d r a) (pr : ∀ i, i < d → dt d (P i) r = r i) (hc : c * (1 + q * s) = q) :
    Pi d (fun i j => N i j + q * (r i * r j)) (fun i j => X i j + (-c) * (a i * a j)) P := by
  refine ⟨fun i j hi hj => ?_, fun i j hi hj => ?_, h.ps, fun i j hi hj => ?_, fun i j hi hj => ?_, fun i j hi hj => ?_⟩
  · show N i j + _ = N j i + _
    rw [h.ns i j hi hj, Rat.mul_comm (r i)]
  · show X i j + _ = X j i + _
    rw [h.xs i j hi hj, Rat.mul_comm (a i)]
  · have e : dt d (fun k => N i k + q * (r i * r k)) (fun k => X k j + (-c) * (a k * a j)) = dt d (fun k => N i k + (q * r i) * r k) (fun k => X k j + (-c * a j) * a k + 0 * a k) := dt_congr (fun k _ => by grind) fun k _ => by grind
    show dt d (fun k => N i k + q * (r i * r k)) (fun k => X k j + (-c) * (a k * a j)) = _
    rw [e, dt3, h.nx i j hi hj, h.na ha hi, pr i hi, h.xr ha hj, ← hs]
    have : P i j + -c * a j * r i + 0 * r i + q * r i * a j + q * r i * (-c * a j) * s + q * r i * 0 * s = P i j + r i * a j * (q - c * (1 + q * s)) := by grind
    rw [this, hc]; grind
  · have e : dt d (P i) (fun k => N k j + q * (r k * r j)) = dt d (fun k => P i k + 0 * r k) (fun k => N k j + (q * r j) * r k + 0 * r k) := dt_congr (fun k _ => by grind) fun k _ => by grind
    show dt d (P i) (fun k => N k j + q * (r k * r j)) = _
    rw [e, dt3, h.pn i j hi hj, pr i hi]; grind
  · have e : dt d (P i) (fun k => X k j + (-c) * (a k * a j)) = dt d (fun k => P i k + 0 * r k) (fun k => X k j + (-c * a j) * a k + 0 * a k) := dt_congr (fun k _ => by grind) fun k _ => by grind
    show dt d (P i) (fun k => X k j + (-c) * (a k * a j)) = _
    rw [e, dt3, h.px i j hi hj, h.pa ha hi]; grind
/-- what is left of a row -/
theorem Pi.out_p {e : Nat → Rat} (he : ∀ i, i < d → e i = r i - dt d (P i) r) {i : Nat} (hi : i < d) : dt d (P i) e = 0 := by
  have e1 : dt d (P i) e = dt d (fun k => P i k + 0 * r k) (fun k => r k + (-1) * dt d (P k) r + 0 * r k) := dt_congr (fun k _ => by grind) fun k hk => by rw [he k hk]; grind
  rw [e1, dt3, dt_assoc, dt_congr (f := fun l => dt d (P i) fun k => P k l) (f' := P i) (g := r) (g' := r) (fun l hl => h.pp hi hl) fun _ _ => rfl]; grind
theorem Pi.out_n {e : Nat → Rat} (pe : ∀ i, i < d → dt d (P i) e = 0) {i : Nat} (hi : i < d) : dt d (N i) e = 0 := by
  have e1 : dt d (N i) e = dt d e (fun k => dt d (P k) fun l => N l i) := by
    rw [dt_comm]; exact dt_congr (fun _ _ => rfl) fun k hk => by rw [h.pn k i hk hi, h.ns i k hi hk]
  rw [e1, dt_assoc]
  refine dt_zero fun l hl => ?_
  rw [dt_comm, ← pe l hl]
  exact dt_congr (fun k hk => h.ps k l hk hl) fun _ _ => rfl
theorem Pi.out_x {e : Nat → Rat} (pe : ∀ i, i < d → dt d (P i) e = 0) {i : Nat} (hi : i < d) : dt d (X i) e = 0 := by
  have e1 : dt d (X i) e = dt d e (fun k => dt d (P k) fun l => X l i) := by
    rw [dt_comm]; exact dt_congr (fun _ _ => rfl) fun k hk => by rw [h.px k i hk hi, h.xs i k hi hk]
  rw [e1, dt_assoc]
  refine dt_zero fun l hl => ?_
  rw [dt_comm, ← pe l hl]
  exact dt_congr (fun k hk => h.ps k l hk hl) fun _ _ => rfl
theorem Pi.out_r {e : Nat → Rat} (he : ∀ i, i < d → e i = r i - dt d (P i) r) (pe : ∀ i, i < d → dt d (P i) e = 0) : dt d r e = dt d e e := by
  have e1 : dt d (fun k => dt d (P k) r) e = 0 := by
    rw [dt_comm, dt_assoc]
    refine dt_zero fun l hl => ?_
    rw [dt_comm, ← pe l hl]
    exact dt_congr (fun k hk => h.ps k l hk hl) fun _ _ => rfl
  have e2 : dt d r e = dt d (fun k => e k + 1 * dt d (P k) r) (fun k => e k + 0 * e k + 0 * e k) := dt_congr (fun k hk => by rw [he k hk]; grind) fun k _ => by grind
  rw [e2, dt3, e1]; grind
theorem Pi.out_a {e : Nat → Rat} (ha : ∀ i, i < d → a i = dt d (X i) r) (pe : ∀ i, i < d → dt d (P i) e = 0) : dt d e a = 0 := by
  rw [dt_congr (fun _ _ => rfl) fun k hk => ha k hk, dt_assoc]
  refine dt_zero fun l hl => ?_
  rw [dt_comm, ← h.out_x pe hl]
  exact dt_congr (fun k hk => h.xs k l hk hl) fun _ _ => rfl
/-- a term out of the span: added -/
theorem Pi.outside {q s E : Rat} {e : Nat → Rat} (ha : ∀ i, i < d → a i = dt d (X i) r) (hs : s = dt d r a) (he : ∀ i, i < d → e i = r i - dt d (P i) r) (hE : E = dt d e e) (h0 : E ≠ 0) (hq : q ≠ 0) :
    Pi d (fun i j => N i j + q * (r i * r j)) (fun i j => X i j + -1 * (1 / E * e i * a j) + -1 * (a i * (1 / E * e j)) + (1 / q + s) * (1 / E * e i * (1 / E * e j))) (fun i j => P i j + e i * (1 / E * e j)) := by
  have pe : ∀ i, i < d → dt d (P i) e = 0 := fun i hi => h.out_p he hi
  have ne : ∀ i, i < d → dt d (N i) e = 0 := fun i hi => h.out_n pe hi
  have re := h.out_r he pe
  have ea := h.out_a ha pe
  have ne2 : ∀ j, j < d → dt d e (fun k => N k j) = 0 := fun j hj => by
    rw [dt_comm, ← ne j hj]; exact dt_congr (fun k hk => h.ns k j hk hj) fun _ _ => rfl
  have xe2 : ∀ j, j < d → dt d e (fun k => X k j) = 0 := fun j hj => by
    rw [dt_comm, ← h.out_x pe hj]; exact dt_congr (fun k hk => h.xs k j hk hj) fun _ _ => rfl
  have iE : E * (1 / E) = 1 := by rw [Rat.div_def, Rat.one_mul]; exact Rat.mul_inv_cancel E h0
  have iq : q * (1 / q) = 1 := by rw [Rat.div_def, Rat.one_mul]; exact Rat.mul_inv_cancel q hq
  generalize 1 / E = F at iE
  generalize 1 / q = p at iq
  have prr : ∀ i, i < d → dt d (P i) r = r i - e i := fun i hi => by rw [he i hi]; grind
  refine ⟨fun i j hi hj => ?_, fun i j hi hj => ?_, fun i j hi hj => ?_, fun i j hi hj => ?_, fun i j hi hj => ?_, fun i j hi hj => ?_⟩
  · show N i j + _ = N j i + _
    rw [h.ns i j hi hj, Rat.mul_comm (r i)]
  · show X i j + _ + _ + _ = X j i + _ + _ + _
    rw [h.xs i j hi hj]; grind
  · show P i j + _ = P j i + _
    rw [h.ps i j hi hj]; grind
  · show dt d (fun k => N i k + q * (r i * r k)) (fun k => X k j + -1 * (F * e k * a j) + -1 * (a k * (F * e j)) + (p + s) * (F * e k * (F * e j))) = P i j + e i * (F * e j)
    have e1 : dt d (fun k => N i k + q * (r i * r k)) (fun k => X k j + -1 * (F * e k * a j) + -1 * (a k * (F * e j)) + (p + s) * (F * e k * (F * e j))) = dt d (fun k => N i k + (q * r i) * r k) (fun k => X k j + (-(F * a j) + (p + s) * F * F * e j) * e k + (-(F * e j)) * a k) := dt_congr (fun k _ => by grind) fun k _ => by grind
    rw [e1, dt3, h.nx i j hi hj, ne i hi, h.na ha hi, prr i hi, h.xr ha hj, re, ← hE, ← hs]
    have : P i j + (-(F * a j) + (p + s) * F * F * e j) * 0 + -(F * e j) * (r i - e i) + q * r i * a j + q * r i * (-(F * a j) + (p + s) * F * F * e j) * E + q * r i * -(F * e j) * s = P i j + e i * (F * e j) + F * e j * r i * (q * p * (E * F) - 1) + q * r i * (a j - F * s * e j) * (1 - E * F) := by grind
    rw [this, iE, iq]; grind
  · show dt d (fun k => P i k + e i * (F * e k)) (fun k => N k j + q * (r k * r j)) = N i j + q * (r i * r j)
    have e1 : dt d (fun k => P i k + e i * (F * e k)) (fun k => N k j + q * (r k * r j)) = dt d (fun k => P i k + (e i * F) * e k) (fun k => N k j + (q * r j) * r k + 0 * r k) := dt_congr (fun k _ => by grind) fun k _ => by grind
    rw [e1, dt3, h.pn i j hi hj, prr i hi, ne2 j hj, dt_comm d e r, re, ← hE]
    have : N i j + q * r j * (r i - e i) + 0 * (r i - e i) + e i * F * 0 + e i * F * (q * r j) * E + e i * F * 0 * E = N i j + q * (r i * r j) + q * r j * e i * (E * F - 1) := by grind
    rw [this, iE]; grind
  · show dt d (fun k => P i k + e i * (F * e k)) (fun k => X k j + -1 * (F * e k * a j) + -1 * (a k * (F * e j)) + (p + s) * (F * e k * (F * e j))) = X i j + -1 * (F * e i * a j) + -1 * (a i * (F * e j)) + (p + s) * (F * e i * (F * e j))
    have e1 : dt d (fun k => P i k + e i * (F * e k)) (fun k => X k j + -1 * (F * e k * a j) + -1 * (a k * (F * e j)) + (p + s) * (F * e k * (F * e j))) = dt d (fun k => P i k + (e i * F) * e k) (fun k => X k j + (-(F * a j) + (p + s) * F * F * e j) * e k + (-(F * e j)) * a k) := dt_congr (fun k _ => by grind) fun k _ => by grind
    rw [e1, dt3, h.px i j hi hj, pe i hi, h.pa ha hi, xe2 j hj, ← hE, ea]
    have : X i j + (-(F * a j) + (p + s) * F * F * e j) * 0 + -(F * e j) * a i + e i * F * 0 + e i * F * (-(F * a j) + (p + s) * F * F * e j) * E + e i * F * -(F * e j) * 0 = X i j + -1 * (F * e i * a j) + -1 * (a i * (F * e j)) + (p + s) * (F * e i * (F * e j)) + e i * (-(F * a j) + (p + s) * F * F * e j) * (E * F - 1) := by grind
    rw [this, iE]; grind
/-- a term removed that nothing makes up for -/
theorem Pi.last {q s L Mm : Rat} {b : Nat → Rat} (ha : ∀ i, i < d → a i = dt d (X i) r) (hs : s = dt d r a) (pr : ∀ i, i < d → dt d (P i) r = r i) (hq : q * s = 1) (hb : ∀ i, i < d → b i = dt d (X i) a) (hL : L = dt d a a) (h0 : L ≠ 0) (hM : Mm = dt d a b) :
    Pi d (fun i j => N i j + (-q) * (r i * r j)) (fun i j => X i j + -1 / L * (b i * a j) + -1 / L * (a i * b j) + Mm / (L * L) * (a i * a j)) (fun i j => P i j + (-1 / L * a i) * a j) := by
  have iL : L * (1 / L) = 1 := by rw [Rat.div_def, Rat.one_mul]; exact Rat.mul_inv_cancel L h0
  have eL : -1 / L = -(1 / L) := by rw [Rat.div_def, Rat.div_def]; grind
  have eLL : Mm / (L * L) = Mm * (1 / L) * (1 / L) := by rw [Rat.div_def, Rat.div_def, Rat.inv_mul_rev]; grind
  rw [eL, eLL]
  generalize 1 / L = F at iL
  have rb : dt d r b = L := by
    rw [dt_congr (fun _ _ => rfl) fun k hk => hb k hk, dt_assoc, hL]
    exact dt_congr (fun l hl => h.xr ha hl) fun _ _ => rfl
  have nb : ∀ i, i < d → dt d (N i) b = a i := fun i hi => by rw [h.na hb hi, h.pa ha hi]
  have na : ∀ i, i < d → dt d (N i) a = r i := fun i hi => by rw [h.na ha hi, pr i hi]
  have an : ∀ j, j < d → dt d a (fun k => N k j) = r j := fun j hj => by
    rw [dt_comm, ← na j hj]; exact dt_congr (fun k hk => h.ns k j hk hj) fun _ _ => rfl
  refine ⟨fun i j hi hj => ?_, fun i j hi hj => ?_, fun i j hi hj => ?_, fun i j hi hj => ?_, fun i j hi hj => ?_, fun i j hi hj => ?_⟩
  · show N i j + _ = N j i + _
    rw [h.ns i j hi hj, Rat.mul_comm (r i)]
  · show X i j + _ + _ + _ = X j i + _ + _ + _
    rw [h.xs i j hi hj]; grind
  · show P i j + _ = P j i + _
    rw [h.ps i j hi hj]; grind
  · show dt d (fun k => N i k + (-q) * (r i * r k)) (fun k => X k j + -F * (b k * a j) + -F * (a k * b j) + Mm * F * F * (a k * a j)) = P i j + (-F * a i) * a j
    have e1 : dt d (fun k => N i k + (-q) * (r i * r k)) (fun k => X k j + -F * (b k * a j) + -F * (a k * b j) + Mm * F * F * (a k * a j)) = dt d (fun k => N i k + (-(q * r i)) * r k) (fun k => X k j + (-(F * a j)) * b k + (-(F * b j) + Mm * F * F * a j) * a k) := dt_congr (fun k _ => by grind) fun k _ => by grind
    rw [e1, dt3, h.nx i j hi hj, nb i hi, na i hi, h.xr ha hj, rb, ← hs]
    have : P i j + -(F * a j) * a i + (-(F * b j) + Mm * F * F * a j) * r i + -(q * r i) * a j + -(q * r i) * -(F * a j) * L + -(q * r i) * (-(F * b j) + Mm * F * F * a j) * s = P i j + -F * a i * a j + (-(F * b j) + Mm * F * F * a j) * r i * (1 - q * s) + q * r i * a j * (L * F - 1) := by grind
    rw [this, iL, hq]; grind
  · show dt d (fun k => P i k + (-F * a i) * a k) (fun k => N k j + (-q) * (r k * r j)) = N i j + (-q) * (r i * r j)
    have e1 : dt d (fun k => P i k + (-F * a i) * a k) (fun k => N k j + (-q) * (r k * r j)) = dt d (fun k => P i k + (-F * a i) * a k) (fun k => N k j + (-(q * r j)) * r k + 0 * r k) := dt_congr (fun k _ => by grind) fun k _ => by grind
    rw [e1, dt3, h.pn i j hi hj, pr i hi, an j hj, dt_comm d a r, ← hs]
    have : N i j + -(q * r j) * r i + 0 * r i + -F * a i * r j + -F * a i * -(q * r j) * s + -F * a i * 0 * s = N i j + -q * (r i * r j) + F * a i * r j * (q * s - 1) := by grind
    rw [this, hq]; grind
  · show dt d (fun k => P i k + (-F * a i) * a k) (fun k => X k j + -F * (b k * a j) + -F * (a k * b j) + Mm * F * F * (a k * a j)) = X i j + -F * (b i * a j) + -F * (a i * b j) + Mm * F * F * (a i * a j)
    have e1 : dt d (fun k => P i k + (-F * a i) * a k) (fun k => X k j + -F * (b k * a j) + -F * (a k * b j) + Mm * F * F * (a k * a j)) = dt d (fun k => P i k + (-F * a i) * a k) (fun k => X k j + (-(F * a j)) * b k + (-(F * b j) + Mm * F * F * a j) * a k) := dt_congr (fun k _ => by grind) fun k _ => by grind
    rw [e1, dt3, h.px i j hi hj, h.pa hb hi, h.pa ha hi, h.xr hb hj, ← hM, ← hL]
    have : X i j + -(F * a j) * b i + (-(F * b j) + Mm * F * F * a j) * a i + -F * a i * b j + -F * a i * -(F * a j) * Mm + -F * a i * (-(F * b j) + Mm * F * F * a j) * L = X i j + -F * (b i * a j) + -F * (a i * b j) + Mm * F * F * (a i * a j) + a i * F * (b j - Mm * F * a j) * (L * F - 1) := by grind
    rw [this, iL]; grind
end
/-! its sizes -/
theorem cut_drop {xs : List D} {k : Nat} (h : k ≤ xs.length) : cutD xs (some (k : Int)) none = xs.drop k := by
  unfold cutD
  rw [HT.sIx_none, HT.sIx_nat, Nat.min_eq_left h]
  exact List.take_of_length_le (by rw [List.length_drop]; exact Nat.le_refl _)
theorem redM_sz {m : List (List Rat)} {w n : Nat} (hW : Wid w m) (hS : SzM n m) : ∃ n2, SzM n2 (redM m w) ∧ n2 + 1 = (n + 1) * 2 ^ (pivM m w).length := by
  obtain ⟨n2, h1, h2⟩ := redA_sz hW hS
  exact ⟨n2, h1.sub fun r hr => List.mem_of_mem_take hr, h2⟩
theorem cols_sz {m : List (List Rat)} {w n : Nat} (hW : Wid w m) (hS : SzM n m) {ps : List Nat} (hp : ∀ p, p ∈ ps → p < w) : SzM n (colsP m ps) := by
  obtain ⟨B, b0, b1, bc⟩ := hS
  refine ⟨B, b0, b1, fun r hr x hx => ?_⟩
  obtain ⟨row, hrow, rfl⟩ := List.mem_map.mp hr
  obtain ⟨p, hp2, rfl⟩ := List.mem_map.mp hx
  exact bc row hrow _ (gtR_mem (by rw [hW row hrow]; exact hp p hp2)).1
/-- all that is made on the way -/
structure PvOk (A : List (List Rat)) (h w : Nat) (n1 n2 n3 : Nat) : Prop where
  sF : SzM n1 (redM A w)
  s1 : SzM n2 (invM (prodR (redM A w) (transR (redM A w) w) (pivM A w).length))
  s2 : SzM n3 (invM (prodR (transR (colsP A (pivM A w)) (pivM A w).length) (colsP A (pivM A w)) (pivM A w).length))
theorem pv_few {h w : Nat} {A : List (List Rat)} (hA : Mt h w A) : (pivM A w).length ≤ h := by
  have := (red_keeps (List.range' 0 w) A [] hA.wid (Nat.zero_le _)).2.2
  rw [hA.len] at this; exact this
theorem pv_few2 {h w : Nat} {A : List (List Rat)} (hA : Mt h w A) : (pivM A w).length ≤ w := (show RInv w w (redA A w).1 (pivM A w) from redA_inv hA.wid).cnt
theorem pow_few {r k : Nat} (h : r ≤ k) : 2 ^ r ≤ 2 ^ k := Nat.pow_le_pow_right (by decide) h
theorem pv_ok {h w z : Nat} {A : List (List Rat)} (hA : Mt h w A) (h5 : h ≤ 5) (w5 : w ≤ 5) (hS : SzM z A) : ∃ n1 n2 n3, PvOk A h w n1 n2 n3 ∧ n1 + 1 ≤ (z + 1) * 32 ∧ n2 + 1 ≤ (2 * n1 + 4) * 32 ∧ n3 + 1 ≤ (2 * z + 4) * 32 := by
  have hr := pv_few hA
  have hC := cols_mt hA (pivM A w)
  have hF := red_mt hA
  have e5 : (2 : Nat) ^ 5 = 32 := by decide
  obtain ⟨n1, sF, e1⟩ := redM_sz hA.wid hS
  have p1 := pow_few (Nat.le_trans hr h5)
  rw [e5] at p1
  have b1 : (z + 1) * 2 ^ (pivM A w).length ≤ (z + 1) * 32 := Nat.mul_le_mul_left _ p1
  have sT := trans_sz hF.wid sF
  have sG := prod_sz (w := (pivM A w).length) (show Wid (transR (redM A w) w).length (redM A w) by rw [hF.tr.len]; exact hF.wid) hF.tr.wid sF sT (by rw [hF.tr.len]; omega)
  obtain ⟨n2, s1, e2⟩ := inv_sz (hF.mul hF.tr) sG
  have b2 : (n1 + n1 + 3 + 1) * 2 ^ (pivM A w).length ≤ (n1 + n1 + 3 + 1) * 32 := Nat.mul_le_mul_left _ p1
  have sC := cols_sz hA.wid hS (ps := pivM A w) fun p hp => (show RInv w w (redA A w).1 (pivM A w) from redA_inv hA.wid).lt hp
  have sS := trans_sz hC.wid sC
  have sH := prod_sz (w := (pivM A w).length) (show Wid (colsP A (pivM A w)).length (transR (colsP A (pivM A w)) (pivM A w).length) by rw [hC.len]; exact hC.tr.wid) hC.wid sS sC (by rw [hC.len]; omega)
  obtain ⟨n3, s2, e3⟩ := inv_sz (hC.tr.mul hC) sH
  have b3 : (z + z + 3 + 1) * 2 ^ (pivM A w).length ≤ (z + z + 3 + 1) * 32 := Nat.mul_le_mul_left _ p1
  exact ⟨n1, n2, n3, ⟨sF, s1, s2⟩, by omega, by omega, by omega⟩
theorem szM_up {n k : Nat} {m : List (List Rat)} (h : SzM n m) (hk : n ≤ k) : SzM k m := h.mono hk
theorem repl0_sz (h w n : Nat) : SzM n (List.replicate w (List.replicate h 0)) := ⟨1, by decide, Nat.one_le_two_pow, fun r hr x hx => by
  rw [(List.mem_replicate.mp hr).2] at hx
  rw [(List.mem_replicate.mp hx).2]; exact cd_zero⟩
theorem pinv_sz {h w z : Nat} {A : List (List Rat)} (hA : Mt h w A) (h5 : h ≤ 5) (w5 : w ≤ 5) (hS : SzM z A) : SzM (2145 * z + 2400) (pinvR A w) := by
  have hr := pv_few hA
  have hr2 := pv_few2 hA
  obtain ⟨n1, n2, n3, ⟨sF, s1, s2⟩, b1, b2, b3⟩ := pv_ok hA h5 w5 hS
  have hC := cols_mt hA (pivM A w)
  have hF := red_mt hA
  have hG := hF.mul hF.tr
  have hH := hC.tr.mul hC
  have m1 := inv_mt hG (noker_F hA)
  have m2 := inv_mt hH (noker_C hA)
  have sC := cols_sz hA.wid hS (ps := pivM A w) fun p hp => (show RInv w w (redA A w).1 (pivM A w) from redA_inv hA.wid).lt hp
  unfold pinvR
  rw [hA.len]
  split
  · exact repl0_sz h w _
  · have sT := trans_sz hF.wid sF
    have sS := trans_sz hC.wid sC
    have s12 := prod_sz (w := (pivM A w).length) (show Wid _ _ by rw [m2.len]; exact m1.wid) m2.wid s1 s2 (by rw [m2.len]; omega)
    have m12 := m1.mul m2
    have sY := prod_sz (w := h) (show Wid (transR (colsP A (pivM A w)) (pivM A w).length).length _ by rw [hC.tr.len]; exact m12.wid) hC.tr.wid s12 sS (by rw [hC.tr.len]; omega)
    have mY := m12.mul hC.tr
    have sX := prod_sz (w := h) (show Wid _ (transR (redM A w) w) by rw [mY.len]; exact hF.tr.wid) mY.wid sT sY (by rw [mY.len]; omega)
    exact sX.mono (by omega)
/-! sizes and entries for the edits -/
def addQ (m : List (List Rat)) (r : List Rat) (q : Rat) : List (List Rat) := sumM m (scaleM q (outerR r r))
theorem up2 {a b : Nat} (h : a ≤ b) : 2 ^ a ≤ 2 ^ b := Nat.pow_le_pow_right (by decide) h
theorem SzV.bt {n : Nat} {v : List Rat} (h : SzV n v) : ∀ x, x ∈ v → Bt n x := fun x hx => by
  obtain ⟨B, b0, b1, bc⟩ := h
  exact (bc x hx).bt b0 b1 (Nat.le_refl _)
theorem SzV.up {n k : Nat} {v : List Rat} (h : SzV n v) (hk : n ≤ k) : SzV k v := by
  obtain ⟨B, b0, b1, bc⟩ := h
  exact ⟨B, b0, Nat.le_trans b1 (up2 hk), fun x hx => (bc x hx).mono (up2 hk)⟩
theorem SzV.sm {n : Nat} {v : List Rat} (h : SzV n v) (hn : n ≤ 16000000) : ∀ x, x ∈ v → Sm x := fun x hx => (h.bt x hx).smW hn
theorem SzM.smE {n : Nat} {m : List (List Rat)} (h : SzM n m) (hn : n ≤ 16000000) : Sms m := fun r hr x hx => (h.btm r hr x hx).smW hn
theorem szv_row {n : Nat} {B : Nat} {v : List Rat} (b0 : 0 < B) (b1 : B ≤ 2 ^ n) (h : ∀ y, y ∈ v → CD B (2 ^ n) y) : SzV n v := ⟨B, b0, b1, h⟩
theorem cd_bt {n : Nat} {f : Rat} (h : Bt n f) : CD f.den (2 ^ n) f := by
  have := cd_div (a := f.num) (b := f.den) (N := 2 ^ n) f.den_pos h.1
  rw [Rat.num_divInt_den] at this
  exact this
theorem scaleV_sz {n1 n2 : Nat} {f : Rat} {v : List Rat} (hf : Bt n1 f) (hv : SzV n2 v) : SzV (n1 + n2) (v.map (f * ·)) := by
  obtain ⟨B, b0, b1, bc⟩ := hv
  refine ⟨f.den * B, Nat.mul_pos f.den_pos b0, by rw [Nat.pow_add]; exact Nat.mul_le_mul hf.2 b1, fun x hx => ?_⟩
  obtain ⟨y, hy, rfl⟩ := List.mem_map.mp hx
  rw [Nat.pow_add]
  exact (cd_bt hf).mul (bc y hy)
theorem scaleM_sz {n1 n2 : Nat} {f : Rat} {m : List (List Rat)} (hf : Bt n1 f) (hm : SzM n2 m) : SzM (n1 + n2) (scaleM f m) := by
  obtain ⟨B, b0, b1, bc⟩ := hm
  refine ⟨f.den * B, Nat.mul_pos f.den_pos b0, by rw [Nat.pow_add]; exact Nat.mul_le_mul hf.2 b1, fun r hr x hx => ?_⟩
  obtain ⟨r0, hr0, rfl⟩ := List.mem_map.mp hr
  obtain ⟨y, hy, rfl⟩ := List.mem_map.mp hx
  rw [Nat.pow_add]
  exact (cd_bt hf).mul (bc r0 hr0 y hy)
theorem outer_sz2 {n1 n2 : Nat} {f s : List Rat} (hf : SzV n1 f) (hs : SzV n2 s) : SzM (n1 + n2) (outerR f s) := by
  obtain ⟨B1, p1, b1, c1⟩ := hf
  obtain ⟨B2, p2, b2, c2⟩ := hs
  refine ⟨B1 * B2, Nat.mul_pos p1 p2, by rw [Nat.pow_add]; exact Nat.mul_le_mul b1 b2, fun r hr x hx => ?_⟩
  obtain ⟨y, hy, rfl⟩ := List.mem_map.mp hr
  obtain ⟨z, hz, rfl⟩ := List.mem_map.mp hx
  rw [Nat.pow_add]
  exact (c1 y hy).mul (c2 z hz)
theorem mem_mapR2 {f : Rat → Rat → Rat} : ∀ {xs ys : List Rat} {z : Rat}, z ∈ mapR2 f xs ys → ∃ x y, x ∈ xs ∧ y ∈ ys ∧ z = f x y
  | [], _, z, h => (nomatch h)
  | _ :: _, [], z, h => (nomatch h)
  | x :: xs, y :: ys, z, h => by
    rcases List.mem_cons.mp (show z ∈ f x y :: mapR2 f xs ys from h) with rfl | h
    · exact ⟨x, y, List.mem_cons_self, List.mem_cons_self, rfl⟩
    · obtain ⟨a, b, ha, hb, e⟩ := mem_mapR2 h
      exact ⟨a, b, List.mem_cons_of_mem _ ha, List.mem_cons_of_mem _ hb, e⟩
theorem cd_both {n1 n2 B1 B2 : Nat} (b1 : B1 ≤ 2 ^ n1) (b2 : B2 ≤ 2 ^ n2) {x y : Rat} (h1 : CD B1 (2 ^ n1) x) (h2 : CD B2 (2 ^ n2) y) : CD (B1 * B2) (2 ^ (n1 + n2)) x ∧ CD (B1 * B2) (2 ^ (n1 + n2)) y := by
  refine ⟨(h1.mulD B2).mono (by rw [Nat.pow_add]; exact Nat.mul_le_mul_left _ b2), ?_⟩
  have := h2.mulD B1
  rw [Nat.mul_comm B2 B1] at this
  exact this.mono (by rw [Nat.pow_add, Nat.mul_comm (2 ^ n1)]; exact Nat.mul_le_mul_left _ b1)
theorem sub_szV {n1 n2 : Nat} {a b : List Rat} (h1 : SzV n1 a) (h2 : SzV n2 b) : SzV (n1 + n2 + 1) (mapR2 (fun x y => x - y) a b) := by
  obtain ⟨B1, p1, b1, c1⟩ := h1
  obtain ⟨B2, p2, b2, c2⟩ := h2
  refine ⟨B1 * B2, Nat.mul_pos p1 p2, Nat.le_trans (Nat.mul_le_mul b1 b2) (by rw [← Nat.pow_add]; exact up2 (by omega)), fun z hz => ?_⟩
  obtain ⟨x, y, hx, hy, rfl⟩ := mem_mapR2 hz
  obtain ⟨d1, d2⟩ := cd_both b1 b2 (c1 x hx) (c2 y hy)
  refine (d1.sub d2).mono ?_
  rw [Nat.pow_succ, Nat.mul_two]; exact Nat.le_refl _
theorem mem_sumM : ∀ {a b : List (List Rat)} {r : List Rat}, r ∈ sumM a b → ∃ x y, x ∈ a ∧ y ∈ b ∧ r = mapR2 (fun x y => x + y) x y
  | [], b, r, h => by unfold sumM at h; simp at h
  | _ :: _, [], r, h => by unfold sumM at h; simp at h
  | x :: a, y :: b, r, h => by
    rcases List.mem_cons.mp (show r ∈ mapR2 (fun x y => x + y) x y :: sumM a b from h) with rfl | h
    · exact ⟨x, y, List.mem_cons_self, List.mem_cons_self, rfl⟩
    · obtain ⟨a, b, ha, hb, e⟩ := mem_sumM h
      exact ⟨a, b, List.mem_cons_of_mem _ ha, List.mem_cons_of_mem _ hb, e⟩
theorem sumM_sz {n1 n2 : Nat} {a b : List (List Rat)} (h1 : SzM n1 a) (h2 : SzM n2 b) : SzM (n1 + n2 + 1) (sumM a b) := by
  obtain ⟨B1, p1, b1, c1⟩ := h1
  obtain ⟨B2, p2, b2, c2⟩ := h2
  refine ⟨B1 * B2, Nat.mul_pos p1 p2, Nat.le_trans (Nat.mul_le_mul b1 b2) (by rw [← Nat.pow_add]; exact up2 (by omega)), fun r hr z hz => ?_⟩
  obtain ⟨r1, r2, h3, h4, rfl⟩ := mem_sumM hr
  obtain ⟨x, y, hx, hy, rfl⟩ := mem_mapR2 hz
  obtain ⟨d1, d2⟩ := cd_both b1 b2 (c1 r1 h3 x hx) (c2 r2 h4 y hy)
  refine (d1.add d2).mono ?_
  rw [Nat.pow_succ, Nat.mul_two]; exact Nat.le_refl _
theorem dot_bt {n1 n2 : Nat} {x y : List Rat} (h1 : SzV n1 x) (h2 : SzV n2 y) (h6 : x.length ≤ 6) : Bt (n1 + n2 + 3) (dotR x y) := by
  obtain ⟨B1, p1, b1, c1⟩ := h1
  obtain ⟨B2, p2, b2, c2⟩ := h2
  refine (cd_dot2 x y c1 c2).bt (Nat.mul_pos p1 p2) (Nat.le_trans (Nat.mul_le_mul b1 b2) (by rw [← Nat.pow_add]; exact up2 (by omega))) ?_
  have e : 2 ^ 3 * (2 ^ n1 * 2 ^ n2) = 2 ^ (n1 + n2 + 3) := by rw [← Nat.pow_add, ← Nat.pow_add]; congr 1; omega
  rw [← e]
  exact Nat.mul_le_mul_right _ (show x.length ≤ 8 by omega)
theorem apply_sz {n1 n2 : Nat} {m : List (List Rat)} {v : List Rat} (hW : Wid v.length m) (h1 : SzM n1 m) (h2 : SzV n2 v) (h6 : v.length ≤ 6) : SzV (n1 + n2 + 3) (applyR m v) := by
  obtain ⟨B1, p1, b1, c1⟩ := h1
  obtain ⟨B2, p2, b2, c2⟩ := h2
  refine ⟨B1 * B2, Nat.mul_pos p1 p2, Nat.le_trans (Nat.mul_le_mul b1 b2) (by rw [← Nat.pow_add]; exact up2 (by omega)), fun z hz => ?_⟩
  obtain ⟨r, hr, rfl⟩ := List.mem_map.mp hz
  refine (cd_dot2 r v (c1 r hr) c2).mono ?_
  have e : 2 ^ 3 * (2 ^ n1 * 2 ^ n2) = 2 ^ (n1 + n2 + 3) := by rw [← Nat.pow_add, ← Nat.pow_add]; congr 1; omega
  rw [← e]
  exact Nat.mul_le_mul_right _ (show r.length ≤ 8 by rw [hW r hr]; omega)
theorem gtR_sub {a b : List Rat} {i : Nat} (h1 : i < a.length) (h2 : i < b.length) : gtR (mapR2 (fun x y => x - y) a b) i = gtR a i - gtR b i := by
  have := mapR2_get (f := fun x y => x - y) (gtR_some h1) (gtR_some h2)
  show ((mapR2 (fun x y => x - y) a b)[i]?).getD 0 = _
  rw [this]; rfl
theorem dot_dt {x y : List Rat} {d : Nat} (h1 : x.length = d) (h2 : y.length = d) : dotR x y = dt d (gtR x) (gtR y) := by
  rw [dot_sum x y (by omega), h2]; rfl
theorem app_dt {d i : Nat} {m : List (List Rat)} {v : List Rat} (hm : Mt d d m) (hv : v.length = d) (hi : i < d) : gtR (applyR m v) i = dt d (ent m i) (gtR v) := by
  rw [gt_apply (by rw [hv]; exact hm.wid) (by rw [hm.len]; exact hi), hv]; rfl
theorem outer_mt {d : Nat} {a b : List Rat} (ha : a.length = d) (hb : b.length = d) : Mt d d (outerR a b) := ⟨by rw [outer_len, ha], by have := outer_wid a b; rw [hb] at this; exact this⟩
theorem scale_mt {d : Nat} {q : Rat} {m : List (List Rat)} (hm : Mt d d m) : Mt d d (scaleM q m) := ⟨by rw [scale_len, hm.len], scale_wid hm.wid⟩
theorem sum_mt {d : Nat} {a b : List (List Rat)} (ha : Mt d d a) (hb : Mt d d b) : Mt d d (sumM a b) := ⟨by rw [sum_len (by rw [ha.len, hb.len]), ha.len], sum_wid ha.wid hb.wid (by rw [ha.len, hb.len])⟩
/-- a matrix with a multiple of an outer product added -/
theorem plus_ent {d i j : Nat} {m : List (List Rat)} {q : Rat} {a b : List Rat} (hm : Mt d d m) (ha : a.length = d) (hb : b.length = d) (hi : i < d) (hj : j < d) : ent (sumM m (scaleM q (outerR a b))) i j = ent m i j + q * (gtR a i * gtR b j) := by
  have ho := outer_mt ha hb
  have hs := scale_mt (q := q) ho
  rw [sum_ent hm.wid hs.wid (by rw [hm.len]; exact hi) (by rw [hs.len]; exact hi) hj, scale_ent ho.wid (by rw [ho.len]; exact hi) hj, outer_ent (by omega) (by omega)]
theorem plus_mt {d : Nat} {m : List (List Rat)} {q : Rat} {a b : List Rat} (hm : Mt d d m) (ha : a.length = d) (hb : b.length = d) : Mt d d (sumM m (scaleM q (outerR a b))) := sum_mt hm (scale_mt (outer_mt ha hb))
theorem mt_len {d : Nat} {m : List (List Rat)} (hm : Mt d d m) (h : d ≤ 1000000) : Len m := ⟨by rw [hm.len]; exact h, fun r hr => by rw [hm.wid r hr]; exact h⟩
/-- what a positive normal matrix has -/
structure Psd (d : Nat) (N : List (List Rat)) : Prop where
  mt : Mt d d N
  sym : transR N d = N
  pos : ∀ v : Nat → Rat, 0 ≤ dt d v fun i => dt d (ent N i) v
theorem add_cond {d : Nat} {N X : List (List Rat)} {r : List Rat} {q : Rat} (hN : Psd d N) (mX : Mt d d X) (c : condB N X d d = true) (hr : r.length = d) (hq : 0 < q) :
    ((mapR2 (fun x y => x - y) r (applyR N (applyR X r))).all (fun x => decide (x = 0)) = true → 1 + q * dotR r (applyR X r) ≠ 0 ∧ condB (addQ N r q) (sumM X (scaleM (-(q / (1 + q * dotR r (applyR X r)))) (outerR (applyR X r) (applyR X r)))) d d = true) ∧
    ((mapR2 (fun x y => x - y) r (applyR N (applyR X r))).all (fun x => decide (x = 0)) = false → dotR (mapR2 (fun x y => x - y) r (applyR N (applyR X r))) (mapR2 (fun x y => x - y) r (applyR N (applyR X r))) ≠ 0) := by
  have mN := hN.mt
  have h := pi_of mN mX hN.sym c
  have la : (applyR X r).length = d := by rw [apply_len, mX.len]
  have lna : (applyR N (applyR X r)).length = d := by rw [apply_len, mN.len]
  have le : (mapR2 (fun x y => x - y) r (applyR N (applyR X r))).length = d := by rw [mapR2_len _ _ (by rw [hr, lna]), hr]
  have ha : ∀ i, i < d → gtR (applyR X r) i = dt d (ent X i) (gtR r) := fun i hi => app_dt mX hr hi
  have hna : ∀ i, i < d → gtR (applyR N (applyR X r)) i = dt d (ent N i) (gtR (applyR X r)) := fun i hi => app_dt mN la hi
  have hs : dotR r (applyR X r) = dt d (gtR r) (gtR (applyR X r)) := dot_dt hr la
  have hge : ∀ i, i < d → gtR (mapR2 (fun x y => x - y) r (applyR N (applyR X r))) i = gtR r i - gtR (applyR N (applyR X r)) i := fun i hi => gtR_sub (by omega) (by omega)
  generalize hee : mapR2 (fun x y => x - y) r (applyR N (applyR X r)) = e at le hge
  generalize haa : applyR X r = a at la ha hna hs hge lna
  constructor
  · intro z
    have rn : ∀ i, i < d → gtR r i = dt d (ent N i) (gtR a) := fun i hi => by
      have m : gtR e i ∈ e := (gtR_mem (by omega)).1
      have := of_decide_eq_true (List.all_eq_true.mp z _ m)
      rw [hge i hi, hna i hi] at this; grind
    have pr : ∀ i, i < d → dt d (ent (prodR N X d) i) (gtR r) = gtR r i := fun i hi => by rw [← h.na ha hi, ← rn i hi]
    have s0 : 0 ≤ dotR r a := by
      have := hN.pos (gtR a)
      have e2 : (dt d (gtR a) fun i => dt d (ent N i) (gtR a)) = dotR r a := by
        rw [hs, dt_comm]; exact dt_congr (fun k hk => (rn k hk).symm) fun _ _ => rfl
      rw [← e2]; exact this
    have hd : 1 + q * dotR r a ≠ 0 := by
      have := Rat.mul_nonneg (Rat.le_of_lt hq) s0
      grind
    refine ⟨hd, ?_⟩
    have hc : q / (1 + q * dotR r a) * (1 + q * dotR r a) = q := Rat.div_mul_cancel hd
    exact cond_fun (plus_mt mN hr hr) (plus_mt mX la la) (fun i j hi hj => plus_ent mN hr hr hi hj) (fun i j hi hj => plus_ent mX la la hi hj) (h.inside ha hs pr hc)
  · intro z e0
    have : ∀ x, x ∈ e → x = 0 := dot_zero e e0
    have : e.all (fun x => decide (x = 0)) = true := List.all_eq_true.mpr fun x hx => decide_eq_true (this x hx)
    rw [this] at z; cases z
theorem add_cond2 {d : Nat} {N X : List (List Rat)} {r a e u : List Rat} {q E : Rat} (hN : Psd d N) (mX : Mt d d X) (c : condB N X d d = true) (hr : r.length = d) (hq : 0 < q) (haa : applyR X r = a) (hee : mapR2 (fun x y => x - y) r (applyR N a) = e) (hE : dotR e e = E) (h0 : E ≠ 0) (hu : e.map (((1 : Int) : Rat) / E * ·) = u) :
    condB (addQ N r q) (sumM (sumM (sumM X (scaleM ((-1 : Int) : Rat) (outerR u a))) (scaleM ((-1 : Int) : Rat) (outerR a u))) (scaleM (((1 : Int) : Rat) / q + dotR r a) (outerR u u))) d d = true ∧ Mt d d (sumM (sumM (sumM X (scaleM ((-1 : Int) : Rat) (outerR u a))) (scaleM ((-1 : Int) : Rat) (outerR a u))) (scaleM (((1 : Int) : Rat) / q + dotR r a) (outerR u u))) := by
  have mN := hN.mt
  have h := pi_of mN mX hN.sym c
  have la : a.length = d := by rw [← haa, apply_len, mX.len]
  have lna : (applyR N a).length = d := by rw [apply_len, mN.len]
  have le : e.length = d := by rw [← hee, mapR2_len _ _ (by rw [hr, lna]), hr]
  have lu : u.length = d := by rw [← hu, List.length_map, le]
  have e1 : ((1 : Int) : Rat) = 1 := by grind
  have em : ((-1 : Int) : Rat) = -1 := by grind
  have ha : ∀ i, i < d → gtR a i = dt d (ent X i) (gtR r) := fun i hi => by rw [← haa]; exact app_dt mX hr hi
  have he : ∀ i, i < d → gtR e i = gtR r i - dt d (ent (prodR N X d) i) (gtR r) := fun i hi => by
    rw [← hee, gtR_sub (by omega) (by omega), app_dt mN la hi, h.na ha hi]
  have gu : ∀ i, i < d → gtR u i = 1 / E * gtR e i := fun i hi => by rw [← hu, gtR_mapQ (by omega), e1]
  have m1 := plus_mt (q := ((-1 : Int) : Rat)) mX lu la
  have m2 := plus_mt (q := ((-1 : Int) : Rat)) m1 la lu
  have m3 := plus_mt (q := ((1 : Int) : Rat) / q + dotR r a) m2 lu lu
  refine ⟨cond_fun (plus_mt mN hr hr) m3 (fun i j hi hj => plus_ent mN hr hr hi hj) (fun i j hi hj => ?_) (h.outside (s := dotR r a) ha (dot_dt hr la) he (hE.symm.trans (dot_dt le le)) h0 (by grind)), m3⟩
  rw [plus_ent m2 lu lu hi hj, plus_ent m1 la lu hi hj, plus_ent mX lu la hi hj, gu i hi, gu j hj, e1, em]
theorem rem_cond {d : Nat} {N X : List (List Rat)} {r a : List Rat} {q l : Rat} (hN : Psd d N) (mX : Mt d d X) (c : condB N X d d = true) (hr : r.length = d) (haa : applyR X r = a) (hl : l = ((1 : Int) : Rat) - q * dotR r a)
    (hk : ∀ v : Nat → Rat, (∀ i, i < d → dt d (ent N i) v = 0) → dt d (gtR r) v = 0) :
    (l ≠ 0 → condB (addQ N r (-q)) (sumM X (scaleM (q / l) (outerR a a))) d d = true) ∧
    (l = 0 → dotR a a ≠ 0 ∧ condB (addQ N r (-q)) (sumM (sumM (sumM X (scaleM (((-1 : Int) : Rat) / dotR a a) (outerR (applyR X a) a))) (scaleM (((-1 : Int) : Rat) / dotR a a) (outerR a (applyR X a)))) (scaleM (dotR a (applyR X a) / (dotR a a * dotR a a)) (outerR a a))) d d = true ∧ Mt d d (sumM (sumM (sumM X (scaleM (((-1 : Int) : Rat) / dotR a a) (outerR (applyR X a) a))) (scaleM (((-1 : Int) : Rat) / dotR a a) (outerR a (applyR X a)))) (scaleM (dotR a (applyR X a) / (dotR a a * dotR a a)) (outerR a a)))) := by
  have mN := hN.mt
  have h := pi_of mN mX hN.sym c
  have la : a.length = d := by rw [← haa, apply_len, mX.len]
  have lb : (applyR X a).length = d := by rw [apply_len, mX.len]
  have e1 : ((1 : Int) : Rat) = 1 := by grind
  have em : ((-1 : Int) : Rat) = -1 := by grind
  have ha : ∀ i, i < d → gtR a i = dt d (ent X i) (gtR r) := fun i hi => by rw [← haa]; exact app_dt mX hr hi
  have hb : ∀ i, i < d → gtR (applyR X a) i = dt d (ent X i) (gtR a) := fun i hi => app_dt mX la hi
  -- the row lies in the span
  have pr : ∀ i, i < d → dt d (ent (prodR N X d) i) (gtR r) = gtR r i := by
    have pe : ∀ i, i < d → dt d (ent (prodR N X d) i) (fun i => gtR r i - dt d (ent (prodR N X d) i) (gtR r)) = 0 := fun i hi => h.out_p (fun _ _ => rfl) hi
    have ne := fun i hi => h.out_n (i := i) pe hi
    have re := h.out_r (fun _ _ => rfl) pe
    rw [hk _ ne] at re
    intro i hi
    have := sq_zero (sum_pos_zero _ d (fun k _ => sq_nonneg _) re.symm i hi)
    grind
  have hs := dot_dt hr la
  constructor
  · intro l0
    have hc : -(q / l) * (1 + -q * dotR r a) = -q := by
      have : 1 + -q * dotR r a = l := by rw [hl, e1]; grind
      rw [this]
      have := Rat.div_mul_cancel (a := q) l0
      grind
    refine cond_fun (plus_mt mN hr hr) (plus_mt mX la la) (fun i j hi hj => plus_ent mN hr hr hi hj) (fun i j hi hj => ?_) (h.inside ha hs pr hc)
    rw [plus_ent mX la la hi hj]; grind
  · intro l0
    have hq : q * dotR r a = 1 := by rw [l0, e1] at hl; grind
    have L0 : dotR a a ≠ 0 := fun z => by
      have z0 := dot_zero a z
      have : dotR r a = 0 := by
        rw [hs, dt_comm]
        refine dt_zero fun k hk2 => z0 _ (gtR_mem (by omega)).1
      rw [this] at hq
      revert hq; grind
    have m1 := plus_mt (q := ((-1 : Int) : Rat) / dotR a a) mX lb la
    have m2 := plus_mt (q := ((-1 : Int) : Rat) / dotR a a) m1 la lb
    have m3 := plus_mt (q := dotR a (applyR X a) / (dotR a a * dotR a a)) m2 la la
    refine ⟨L0, cond_fun (plus_mt mN hr hr) m3 (fun i j hi hj => plus_ent mN hr hr hi hj) (fun i j hi hj => ?_) (h.last (s := dotR r a) ha hs pr hq hb (dot_dt la la) L0 (dot_dt la lb)), m3⟩
    rw [plus_ent m2 la la hi hj, plus_ent m1 la lb hi hj, plus_ent mX lb la hi hj, em]
/-! normal matrices -/
abbrev nrm (w : Nat) (ts : List (Rat × List Rat)) : List (List Rat) := bldR w (entR ts)
theorem nrm_mt (w : Nat) (ts : List (Rat × List Rat)) : Mt w w (nrm w ts) := ⟨bld_len w _, bld_wid w _⟩
theorem entR_sym (i j : Nat) : ∀ ts : List (Rat × List Rat), entR ts i j = entR ts j i
  | [] => rfl
  | t :: ts => by
    show t.1 * gtR t.2 i * gtR t.2 j + entR ts i j = t.1 * gtR t.2 j * gtR t.2 i + entR ts j i
    rw [entR_sym i j ts]; grind
theorem nrm_sym (w : Nat) (ts : List (Rat × List Rat)) : transR (nrm w ts) w = nrm w ts := (nrm_mt w ts).tr.ext (nrm_mt w ts) fun i j hi hj => by
  rw [(nrm_mt w ts).entT hi hj, ent_bld hj hi, ent_bld hi hj, entR_sym]
/-- v N v -/
def quadT (w : Nat) (v : Nat → Rat) : List (Rat × List Rat) → Rat
  | [] => 0
  | t :: ts => t.1 * (dt w (gtR t.2) v * dt w (gtR t.2) v) + quadT w v ts
theorem quad_eq (w : Nat) (v : Nat → Rat) : ∀ ts : List (Rat × List Rat), (dt w v fun i => dt w (entR ts i) v) = quadT w v ts
  | [] => by
    show (dt w v fun i => dt w (fun _ => 0) v) = 0
    rw [dt_comm]; exact dt_zero fun k _ => dt_zero fun _ _ => rfl
  | t :: ts => by
    have e1 : ∀ i, dt w (entR (t :: ts) i) v = dt w (entR ts i) v + (t.1 * dt w (gtR t.2) v) * gtR t.2 i + 0 * gtR t.2 i := fun i => by
      have : dt w (entR (t :: ts) i) v = dt w (fun j => entR ts i j + (t.1 * gtR t.2 i) * gtR t.2 j) (fun j => v j + 0 * v j + 0 * v j) := dt_congr (fun j _ => by
        show t.1 * gtR t.2 i * gtR t.2 j + entR ts i j = _
        grind) fun j _ => by grind
      rw [this, dt3]; grind
    have e2 : (dt w v fun i => dt w (entR (t :: ts) i) v) = dt w (fun k => v k + 0 * v k) (fun i => dt w (entR ts i) v + (t.1 * dt w (gtR t.2) v) * gtR t.2 i + 0 * gtR t.2 i) := dt_congr (fun _ _ => by grind) fun i _ => e1 i
    rw [e2, dt3, quad_eq w v ts, dt_comm w v (gtR t.2)]
    show _ = t.1 * (dt w (gtR t.2) v * dt w (gtR t.2) v) + quadT w v ts
    grind
theorem quad_pos {w : Nat} {v : Nat → Rat} : ∀ {ts : List (Rat × List Rat)}, (∀ t, t ∈ ts → 0 < t.1) → 0 ≤ quadT w v ts
  | [], _ => by show (0 : Rat) ≤ 0; grind
  | t :: ts, h => by
    have a := quad_pos (w := w) (v := v) (ts := ts) fun x hx => h x (List.mem_cons_of_mem _ hx)
    have b := Rat.mul_nonneg (Rat.le_of_lt (h t List.mem_cons_self)) (sq_nonneg (dt w (gtR t.2) v))
    show 0 ≤ t.1 * (dt w (gtR t.2) v * dt w (gtR t.2) v) + quadT w v ts
    grind
theorem quad_zero {w : Nat} {v : Nat → Rat} : ∀ {ts : List (Rat × List Rat)}, (∀ t, t ∈ ts → 0 < t.1) → quadT w v ts = 0 → ∀ t, t ∈ ts → dt w (gtR t.2) v = 0
  | [], _, _, t, ht => (nomatch ht)
  | x :: ts, h, e, t, ht => by
    have hx := h x List.mem_cons_self
    have hs : ∀ y, y ∈ ts → 0 < y.1 := fun y hy => h y (List.mem_cons_of_mem _ hy)
    have a := quad_pos (w := w) (v := v) hs
    have b := Rat.mul_nonneg (Rat.le_of_lt hx) (sq_nonneg (dt w (gtR x.2) v))
    have e : x.1 * (dt w (gtR x.2) v * dt w (gtR x.2) v) + quadT w v ts = 0 := e
    have z1 : x.1 * (dt w (gtR x.2) v * dt w (gtR x.2) v) = 0 := by grind
    have z2 : quadT w v ts = 0 := by grind
    rcases List.mem_cons.mp ht with rfl | ht
    · rcases Rat.mul_eq_zero.mp z1 with q | q
      · grind
      · exact sq_zero q
    · exact quad_zero hs z2 t ht
theorem nrm_dt {w i : Nat} {ts : List (Rat × List Rat)} {v : Nat → Rat} (hi : i < w) : dt w (ent (nrm w ts) i) v = dt w (entR ts i) v := dt_congr (fun j hj => ent_bld hi hj) fun _ _ => rfl
theorem nrm_psd {w : Nat} {ts : List (Rat × List Rat)} (h : ∀ t, t ∈ ts → 0 < t.1) : Psd w (nrm w ts) := ⟨nrm_mt w ts, nrm_sym w ts, fun v => by
  have : (dt w v fun i => dt w (ent (nrm w ts) i) v) = quadT w v ts := by
    rw [← quad_eq]; exact dt_congr (fun _ _ => rfl) fun i hi => nrm_dt hi
  rw [this]; exact quad_pos h⟩
theorem nrm_ker {w : Nat} {ts : List (Rat × List Rat)} (h : ∀ t, t ∈ ts → 0 < t.1) {t : Rat × List Rat} (ht : t ∈ ts) : ∀ v : Nat → Rat, (∀ i, i < w → dt w (ent (nrm w ts) i) v = 0) → dt w (gtR t.2) v = 0 := fun v hv => by
  refine quad_zero h ?_ t ht
  rw [← quad_eq, dt_comm]
  exact dt_zero fun i hi => by rw [← nrm_dt hi]; exact hv i hi
theorem nrm_add {w : Nat} {ts : List (Rat × List Rat)} {q : Rat} {r : List Rat} (hr : r.length = w) : addQ (nrm w ts) r q = nrm w (ts ++ [(q, r)]) := by
  refine (plus_mt (nrm_mt w ts) hr hr).ext (nrm_mt w _) fun i j hi hj => ?_
  rw [plus_ent (nrm_mt w ts) hr hr hi hj, ent_bld hi hj, ent_bld hi hj, entR_app]
  show _ + q * (gtR r i * gtR r j) = _ + (q * gtR r i * gtR r j + 0)
  rw [Rat.mul_assoc]; grind
theorem nrm_rem {w : Nat} {a b : List (Rat × List Rat)} {t : Rat × List Rat} (hr : t.2.length = w) : addQ (nrm w (a ++ t :: b)) t.2 (-t.1) = nrm w (a ++ b) := by
  refine (plus_mt (nrm_mt w _) hr hr).ext (nrm_mt w _) fun i j hi hj => ?_
  rw [plus_ent (nrm_mt w _) hr hr hi hj, ent_bld hi hj, ent_bld hi hj, entR_app, entR_app]
  show (_ + (t.1 * gtR t.2 i * gtR t.2 j + entR b i j)) + -t.1 * (gtR t.2 i * gtR t.2 j) = _
  grind
theorem ent_cd {B n w i j : Nat} (hi : i < w) (hj : j < w) : ∀ ts : List (Rat × List Rat), TSz B n ts → (∀ t, t ∈ ts → t.2.length = w) → CD (28 * (B * B)) (ts.length * (2048 * (2 ^ n * 2 ^ n))) (entR ts i j)
  | [], _, _ => cd_zero
  | t :: ts, h, hl => by
    have l := hl t List.mem_cons_self
    have m := List.mem_cons_self (a := t) (l := ts)
    have c1 := h.wt t m
    have c2 := h.row t m _ (gtR_mem (xs := t.2) (k := i) (by omega)).1
    have c3 := h.row t m _ (gtR_mem (xs := t.2) (k := j) (by omega)).1
    have p := c1.mul (c2.mul c3)
    have ih := ent_cd hi hj ts ⟨h.pos, fun x hx => h.wt x (List.mem_cons_of_mem _ hx), fun x hx => h.row x (List.mem_cons_of_mem _ hx)⟩ fun x hx => hl x (List.mem_cons_of_mem _ hx)
    have e : entR (t :: ts) i j = t.1 * (gtR t.2 i * gtR t.2 j) + entR ts i j := by
      show t.1 * gtR t.2 i * gtR t.2 j + entR ts i j = _
      rw [Rat.mul_assoc]
    rw [e]
    refine (p.add ih).mono ?_
    rw [List.length_cons, Nat.add_mul, Nat.one_mul, Nat.add_comm]; exact Nat.le_refl _
theorem nrm_sz {B n k z w : Nat} {ts : List (Rat × List Rat)} (h : TSz B n ts) (hl : ∀ t, t ∈ ts → t.2.length = w) (hB : B ≤ 2 ^ k) (h8 : ts.length ≤ 16) (z1 : 5 + 2 * k ≤ z) (z2 : 15 + 2 * n ≤ z) : SzM z (nrm w ts) := by
  refine ⟨28 * (B * B), Nat.mul_pos (by decide) (Nat.mul_pos h.pos h.pos), ?_, fun r hr x hx => ?_⟩
  · have : 28 * (B * B) ≤ 2 ^ 5 * (2 ^ k * 2 ^ k) := Nat.mul_le_mul (by decide) (Nat.mul_le_mul hB hB)
    rw [← Nat.pow_add, ← Nat.pow_add] at this
    exact Nat.le_trans this (up2 (by omega))
  · obtain ⟨i, hi, rfl⟩ := List.mem_map.mp hr
    have hi := (List.mem_range'_1.mp hi).2
    obtain ⟨j, hj, rfl⟩ := List.mem_map.mp hx
    have hj := (List.mem_range'_1.mp hj).2
    refine (ent_cd (w := w) (by omega) (by omega) ts h hl).mono ?_
    have : ts.length * (2048 * (2 ^ n * 2 ^ n)) ≤ 2 ^ 4 * (2 ^ 11 * (2 ^ n * 2 ^ n)) := Nat.mul_le_mul (by show _ ≤ 16; omega) (Nat.mul_le_mul (by decide) (Nat.le_refl _))
    have e : 2 ^ 4 * (2 ^ 11 * (2 ^ n * 2 ^ n)) = 2 ^ (15 + 2 * n) := by
      rw [← Nat.pow_add 2 n n, ← Nat.pow_add, ← Nat.pow_add]; congr 1; omega
    rw [e] at this
    exact Nat.le_trans this (up2 (by omega))
def DigOk (ts : List Int) : Prop := ts.length ≤ 4000 ∧ ∀ t, t ∈ ts → 0 ≤ t ∧ t < 1000
/-- the law's state at st: digits, a place, a seed; b: the place is at most b -/
def Ls (st : Addr) (b : Nat) (M : Mem) : Prop := ∃ (ts : List Int) (k s : Int), DigOk ts ∧ 0 ≤ k ∧ k ≤ b ∧ (0 ≤ s ∧ s < 2147483648) ∧ M st = some (.lst [.lst (dInts ts), .int k, .int s])
theorem Ls.mono {st b c M} (h : Ls st b M) (hbc : b ≤ c) : Ls st c M := let ⟨ts, k, s, t, h0, h1, h2, e⟩ := h; ⟨ts, k, s, t, h0, by omega, h2, e⟩
theorem Ls.off {st b M M'} (h : Ls st b M) (e : M' st = M st) : Ls st b M' := let ⟨ts, k, s, t, h0, h1, h2, e2⟩ := h; ⟨ts, k, s, t, h0, h1, h2, e.trans e2⟩
theorem Ls.ne {st b M p} (h : Ls st b M) (hp : M p = none) : st ≠ p := fun e => by obtain ⟨ts, k, s, t, h0, h1, h2, e2⟩ := h; rw [e, hp] at e2; cases e2
/-- two tests that hold: nothing is refused -/
theorem guard2 {tA tB : DT} {t r : DSt} {De : DEnds} {δ : DS0} {M : Mem} (hA : ∀ Q : Bool → Mem → Prop, Q true M → tA δ M Q) (hB : ∀ Q : Bool → Mem → Prop, Q true M → tB δ M Q) (h : r De δ M) : (dSeq (dIf (dOr (dNot tA) (dNot tB)) t dNext) r) De δ M :=
  hA _ (ite_f (hB _ (ite_f h)))
theorem guard2e {tA tB : DT} {t : DSt} {De : DEnds} {δ : DS0} {M : Mem} (hA : ∀ Q : Bool → Mem → Prop, Q true M → tA δ M Q) (hB : ∀ Q : Bool → Mem → Prop, Q true M → tB δ M Q) (h : De.nx δ M) : (dIf (dOr (dNot tA) (dNot tB)) t dNext) De δ M :=
  hA _ (ite_f (hB _ (ite_f h)))
theorem guard1 {tA : DT} {t r : DSt} {De : DEnds} {δ : DS0} {M : Mem} (hA : ∀ Q : Bool → Mem → Prop, Q true M → tA δ M Q) (h : r De δ M) : (dSeq (dIf (dNot tA) t dNext) r) De δ M := hA _ (ite_f h)
theorem guardA {tA tB : DT} {t r : DSt} {De : DEnds} {δ : DS0} {M : Mem} (b : Bool) (hA : ∀ Q : Bool → Mem → Prop, Q b M → tA δ M Q) (hB : b = true → ∀ Q : Bool → Mem → Prop, Q true M → tB δ M Q) (h : r De δ M) : (dSeq (dIf (dAnd tA (dNot tB)) t dNext) r) De δ M :=
  hA _ (ite_b (fun e => hB e _ (ite_f h)) fun _ => ite_f h)
/-! terms that are kept, with their normal matrix and its pseudo-inverse -/
theorem ans_tm (a b : Rat × List Rat) : ansT ansTm (termD a) (termD b) = some (decide (a = b)) := by
  obtain ⟨p, r⟩ := a
  obtain ⟨q, s⟩ := b
  have h : ansTm (vecD r) (vecD s) = some (decide (r = s)) := ans_row r s
  show (((some (decide (p = q))).bind fun r1 => ((ansTm (vecD r) (vecD s)).bind fun r2 => (some []).map fun rs => r2 :: rs).map fun rs => r1 :: rs)).map (fun rs => rs.all id && 2 == 2) = _
  rw [h]
  show some ((decide (p = q) && (decide (r = s) && true)) && true) = _
  congr 1
  rw [Bool.eq_iff_iff]; simp
theorem first_of {α : Type} [DecidableEq α] (t : α) : ∀ {T : List α}, t ∈ T → ∃ j, T[j]? = some t ∧ ∀ (i : Nat) x, i < j → T[i]? = some x → x ≠ t
  | x :: T, h => by
    by_cases e : x = t
    · exact ⟨0, by rw [e]; rfl, fun i y hi => absurd hi (Nat.not_lt_zero i)⟩
    · obtain ⟨j, a, b⟩ := first_of t (T := T) (by
        rcases List.mem_cons.mp h with h | h
        · exact absurd h.symm e
        · exact h)
      refine ⟨j + 1, a, fun i y hi hy => ?_⟩
      cases i with
      | zero => cases hy; exact e
      | succ i => exact b i y (by omega) hy
theorem rem_first {T : List (Rat × List Rat)} {t : Rat × List Rat} (h : t ∈ T) : ∃ j, RemAt (ansT ansTm) (T.map termD) (termD t) j ∧ T[j]? = some t := by
  obtain ⟨j, a, b⟩ := first_of t h
  have hj := (List.getElem?_eq_some_iff.mp a).1
  refine ⟨j, ⟨by rw [List.length_map]; exact hj, fun i d hi hd => ?_, fun d hd => ?_⟩, a⟩
  · rw [List.getElem?_map] at hd
    obtain ⟨x, hx, rfl⟩ := Option.map_eq_some_iff.mp hd
    rw [ans_tm, decide_eq_false (b i x hi hx)]
  · rw [List.getElem?_map, a] at hd
    cases hd
    rw [ans_tm, decide_eq_true rfl]
theorem map_erase {α β : Type} (f : α → β) (xs : List α) (a : Nat) : (xs.map f).eraseIdx a = (xs.eraseIdx a).map f := by
  rw [List.eraseIdx_eq_take_drop_succ, List.eraseIdx_eq_take_drop_succ, List.map_append, List.map_take, List.map_drop]
structure KeptAt (kp p : Addr) (w : Nat) (ts : List (Rat × List Rat)) (M : Mem) : Prop where
  ne : p ≠ kp
  tm : M p = some (.lst (ts.map termD))
  at_ : M kp = some (.lst [.ref p, matD (nrm w ts), matD (pinvR (nrm w ts) w)])
theorem KeptAt.off {st kp p : Addr} {w : Nat} {ts : List (Rat × List Rat)} {M M' : Mem} (h : KeptAt kp p w ts M) (e : Off st M M') (h1 : kp ≠ st) (h2 : p ≠ st) : KeptAt kp p w ts M' := ⟨h.ne, (e p h2).trans h.tm, (e kp h1).trans h.at_⟩
structure TsOk (w k : Nat) (ts : List (Rat × List Rat)) : Prop where
  ok : ∀ t, t ∈ ts → TOk2 w t ∧ 0 < t.1
  sz : TSz 1 (2 + k) ts
  few : ts.length ≤ k
theorem TsOk.nil {w : Nat} : TsOk w 0 [] := ⟨fun t h => (nomatch h), ⟨by decide, fun t h => (nomatch h), fun t h => (nomatch h)⟩, Nat.le_refl _⟩
theorem TsOk.add {w k : Nat} {ts : List (Rat × List Rat)} {q : Rat} {r : List Rat} (h : TsOk w k ts) (hq : Bt 10 q) (cq : CD 28 2048 q) (pq : 0 < q) (lr : r.length = w) (cr : ∀ x, x ∈ r → CD 1 (2 ^ (3 + k)) x) (hk : k ≤ 12) : TsOk w (k + 1) (ts ++ [(q, r)]) := by
  have e : 2 + (k + 1) = 3 + k := by omega
  refine ⟨fun t ht => ?_, ⟨by decide, fun t ht => ?_, fun t ht => ?_⟩, ?_⟩
  · rcases List.mem_append.mp ht with m | m
    · exact h.ok t m
    · rw [List.mem_singleton.mp m]
      exact ⟨⟨hq.mono (by decide), lr, fun x hx => ((cr x hx).bt (n := 16) (by decide) (by decide) (up2 (by omega))).mono (by decide)⟩, pq⟩
  · rcases List.mem_append.mp ht with m | m
    · exact h.sz.wt t m
    · rw [List.mem_singleton.mp m]; exact cq
  · rw [e]
    rcases List.mem_append.mp ht with m | m
    · exact fun x hx => (h.sz.row t m x hx).mono (up2 (by omega))
    · rw [List.mem_singleton.mp m]; exact cr
  · rw [List.length_append, List.length_singleton]; have := h.few; omega
theorem TsOk.sub {w k : Nat} {ts ts2 : List (Rat × List Rat)} (h : TsOk w k ts) (s : ∀ t, t ∈ ts2 → t ∈ ts) (l : ts2.length ≤ ts.length) : TsOk w k ts2 :=
  ⟨fun t ht => h.ok t (s t ht), ⟨h.sz.pos, fun t ht => h.sz.wt t (s t ht), fun t ht => h.sz.row t (s t ht)⟩, Nat.le_trans l h.few⟩
theorem TsOk.up {w k : Nat} {ts : List (Rat × List Rat)} (h : TsOk w k ts) : TsOk w (k + 1) ts :=
  ⟨h.ok, ⟨h.sz.pos, h.sz.wt, fun t ht x hx => (h.sz.row t ht x hx).mono (up2 (by omega))⟩, Nat.le_succ_of_le h.few⟩
theorem TsOk.rem {w k : Nat} {ts : List (Rat × List Rat)} (h : TsOk w k ts) (a : Nat) : TsOk w k (ts.eraseIdx a) :=
  h.sub (fun t ht => List.mem_of_mem_eraseIdx ht) (List.length_eraseIdx_le ..)
theorem TsOk.szN {w k : Nat} {ts : List (Rat × List Rat)} (h : TsOk w k ts) (hk : k ≤ 12) : SzM 50 (nrm w ts) := nrm_sz (k := 0) h.sz (fun t ht => (h.ok t ht).1.2.1) (by decide) (by have := h.few; omega) (by decide) (by omega)
theorem TsOk.szX {w k : Nat} {ts : List (Rat × List Rat)} (h : TsOk w k ts) (hk : k ≤ 12) (hw : w ≤ 4) : SzM 110000 (pinvR (nrm w ts) w) := (pinv_sz (nrm_mt w ts) (by omega) (by omega) (h.szN hk)).mono (by decide)
theorem TsOk.szR {w k : Nat} {ts : List (Rat × List Rat)} (h : TsOk w k ts) (hk : k ≤ 12) {t : Rat × List Rat} (ht : t ∈ ts) : SzV 14 t.2 := ⟨1, by decide, by decide, fun x hx => (h.sz.row t ht x hx).mono (up2 (by omega))⟩
theorem TsOk.rem_one {w k : Nat} {ts : List (Rat × List Rat)} (h : TsOk w k ts) {a : Nat} {t : Rat × List Rat} (e : ts[a]? = some t) {X' : List (List Rat)} (mX : Mt w w X') (c : condB (addQ (nrm w ts) t.2 (-t.1)) X' w w = true) : addQ (nrm w ts) t.2 (-t.1) = nrm w (ts.eraseIdx a) ∧ X' = pinvR (nrm w (ts.eraseIdx a)) w := by
  have lt := (h.ok t (List.mem_of_getElem? e)).1.2.1
  have hl := (List.getElem?_eq_some_iff.mp e).1
  have et : ts = ts.take a ++ t :: ts.drop (a + 1) := by
    have : ts[a] = t := (List.getElem?_eq_some_iff.mp e).2
    rw [← this, ← List.drop_eq_getElem_cons hl, List.take_append_drop]
  have eN : addQ (nrm w ts) t.2 (-t.1) = nrm w (ts.eraseIdx a) := by
    rw [List.eraseIdx_eq_take_drop_succ]
    conv => lhs; rw [et]
    exact nrm_rem lt
  refine ⟨eN, ?_⟩
  rw [eN] at c
  have mN := nrm_mt w (ts.eraseIdx a)
  exact pinv_one mN mX (pinv_mt mN) c (pinv_ok mN)
theorem TsOk.add_one {w : Nat} {ts : List (Rat × List Rat)} {q : Rat} {r : List Rat} (lr : r.length = w) {X' : List (List Rat)} (mX : Mt w w X') (c : condB (addQ (nrm w ts) r q) X' w w = true) : addQ (nrm w ts) r q = nrm w (ts ++ [(q, r)]) ∧ X' = pinvR (nrm w (ts ++ [(q, r)])) w := by
  have eN := nrm_add (w := w) (ts := ts) (q := q) lr
  refine ⟨eN, ?_⟩
  rw [eN] at c
  have mN := nrm_mt w (ts ++ [(q, r)])
  exact pinv_one mN mX (pinv_mt mN) c (pinv_ok mN)
theorem outer_sz {n : Nat} {f s : List Rat} (hf : SzV n f) (hs : SzV n s) : SzM (2 * n) (outerR f s) := by
  obtain ⟨B1, p1, b1, c1⟩ := hf
  obtain ⟨B2, p2, b2, c2⟩ := hs
  have e : 2 ^ n * 2 ^ n = 2 ^ (2 * n) := by rw [← Nat.pow_add]; congr 1; omega
  refine ⟨B1 * B2, Nat.mul_pos p1 p2, by rw [← e]; exact Nat.mul_le_mul b1 b2, fun r hr x hx => ?_⟩
  obtain ⟨y, hy, rfl⟩ := List.mem_map.mp hr
  obtain ⟨z, hz, rfl⟩ := List.mem_map.mp hx
  rw [← e]
  exact (c1 y hy).mul (c2 z hz)
theorem rankX_sz {f s : List Rat} (hf : SzV 34 f) (hs : SzV 34 s) (lf : f.length ≤ 4) (ls : s.length ≤ 4) : SzM 150 (rankX f s) := by
  by_cases hL : dotR f f * dotR s s = 0
  · refine ⟨1, by decide, Nat.one_le_two_pow, fun r hr x hx => ?_⟩
    obtain ⟨y, hy, rfl⟩ := List.mem_map.mp hr
    obtain ⟨z, hz, rfl⟩ := List.mem_map.mp hx
    rw [if_pos hL]; exact cd_zero
  · obtain ⟨B1, p1, b1, c1⟩ := hf
    obtain ⟨B2, p2, b2, c2⟩ := hs
    obtain ⟨ip, ey, ly⟩ := (cd_dot2 f f c1 c1).mul (cd_dot2 s s c2 c2)
    have hB : 0 < B1 * B1 * (B2 * B2) := Nat.mul_pos (Nat.mul_pos p1 p1) (Nat.mul_pos p2 p2)
    have hip : ip ≠ 0 := fun z => by
      subst z
      have hBr : ((B1 * B1 * (B2 * B2) : Nat) : Rat) ≠ 0 := fun z => by
        have h2 : ((B1 * B1 * (B2 * B2) : Nat) : Rat) = ((0 : Nat) : Rat) := z
        have := Rat.natCast_inj.mp h2
        omega
      rcases Rat.mul_eq_zero.mp (show dotR f f * dotR s s * ((B1 * B1 * (B2 * B2) : Nat) : Rat) = 0 by rw [ey]; rfl) with h | h
      · exact hL h
      · exact hBr h
    have e68 : 2 ^ 34 * 2 ^ 34 = 2 ^ 68 := by rw [← Nat.pow_add]
    have l140 : ip.natAbs ≤ 2 ^ 150 := by
      have : f.length * (2 ^ 34 * 2 ^ 34) * (s.length * (2 ^ 34 * 2 ^ 34)) ≤ 2 ^ 2 * 2 ^ 68 * (2 ^ 2 * 2 ^ 68) := by
        rw [e68]
        exact Nat.mul_le_mul (Nat.mul_le_mul_right _ (show f.length ≤ 2 ^ 2 by show _ ≤ 4; omega)) (Nat.mul_le_mul_right _ (show s.length ≤ 2 ^ 2 by show _ ≤ 4; omega))
      have e : 2 ^ 2 * 2 ^ 68 * (2 ^ 2 * 2 ^ 68) = 2 ^ 140 := by rw [← Nat.pow_add, ← Nat.pow_add]
      exact Nat.le_trans ly (Nat.le_trans this (by rw [e]; exact Nat.pow_le_pow_right (by decide) (by decide)))
    refine ⟨ip.natAbs, by omega, l140, fun r hr x hx => ?_⟩
    obtain ⟨y, hy, rfl⟩ := List.mem_map.mp hr
    obtain ⟨z, hz, rfl⟩ := List.mem_map.mp hx
    rw [if_neg hL]
    have c := ((c1 z hz).mul (c2 y hy)).mulD (B1 * B2)
    rw [Nat.mul_mul_mul_comm] at c
    have d := div_cd (E := 1) hB ey hL (one_E c)
    rw [Nat.mul_one] at d
    have e : z * y / (dotR f f * dotR s s) = 1 / (dotR f f * dotR s s) * (z * y) := by rw [Rat.div_def, Rat.div_def, Rat.one_mul, Rat.mul_comm]
    rw [e]
    refine d.mono ?_
    have : 2 ^ 34 * 2 ^ 34 * (B1 * B2) ≤ 2 ^ 34 * 2 ^ 34 * (2 ^ 34 * 2 ^ 34) := Nat.mul_le_mul_left _ (Nat.mul_le_mul b1 b2)
    have e4 : 2 ^ 34 * 2 ^ 34 * (2 ^ 34 * 2 ^ 34) = 2 ^ 136 := by rw [← Nat.pow_add, ← Nat.pow_add]
    exact Nat.le_trans this (by rw [e4]; exact Nat.pow_le_pow_right (by decide) (by decide))
/-- one number changed -/
def setE (X : List (List Rat)) (a j : Nat) (v : Rat) : List (List Rat) := X.set a ((rowR X a).set j v)
theorem setE_len (X : List (List Rat)) (a j : Nat) (v : Rat) : (setE X a j v).length = X.length := List.length_set
theorem setE_wid {X : List (List Rat)} {a j w : Nat} {v : Rat} (h : Wid w X) (ha : a < X.length) : Wid w (setE X a j v) := fun r hr => by
  obtain ⟨k, hk, rfl⟩ := mem_row hr
  rw [setE_len] at hk
  unfold setE
  rw [set_row hk]
  split
  · rw [List.length_set]; exact h _ (rowR_mem ha)
  · exact h _ (rowR_mem hk)
theorem setE_sz {X : List (List Rat)} {a j n k : Nat} {v : Rat} (ha : a < X.length) (h : SzM n X) (hn : n ≤ k) (hv : ∀ B, 0 < B → B ≤ 2 ^ n → Cds B (2 ^ n) X → ∃ E, 0 < E ∧ B * E ≤ 2 ^ k ∧ 2 ^ n * E ≤ 2 ^ k ∧ CD (B * E) (2 ^ k) v) : SzM k (setE X a j v) := by
  obtain ⟨B, h0, h1, h2⟩ := h
  obtain ⟨E, e0, e1, e2, e3⟩ := hv B h0 h1 h2
  refine ⟨B * E, Nat.mul_pos h0 e0, e1, fun r hr x hx => ?_⟩
  have old : ∀ r, r ∈ X → ∀ y, y ∈ r → CD (B * E) (2 ^ k) y := fun r hr y hy => ((h2 r hr y hy).mulD E).mono e2
  obtain ⟨i, hi, rfl⟩ := mem_row hr
  rw [setE_len] at hi
  unfold setE at hx
  rw [set_row hi] at hx
  by_cases ei : i = a
  · rw [if_pos ei] at hx
    rcases List.mem_or_eq_of_mem_set hx with h | h
    · exact old _ (rowR_mem ha) x h
    · rw [h]; exact e3
  · rw [if_neg ei] at hx
    exact old _ (rowR_mem hi) x hx
/-- a comprehension that makes lists for changing -/
theorem lc_refs {α : Type} {j : Nat} {te : DE} {δ : DS0} {Q : List D → Mem → Prop} (g : α → D) (f : α → List D) (h : ∀ r M (K : DK), (∀ p, M p = none → K (.ref p) (mput M p (.lst (f r)))) → te (δ.set j (some (g r))) M K) :
    ∀ (m : List α) (ps : List Addr) M, ps.length + m.length ≤ sizeLine →
      (∀ qs M', (∀ q, q ∈ qs → M q = none) → qs.length = m.length → (∀ (i i2 : Nat) q, qs[i]? = some q → qs[i2]? = some q → i = i2) → (∀ (i : Nat) q r, qs[i]? = some q → m[i]? = some r → M' q = some (.lst (f r))) → (∀ x, x ∉ qs → M' x = M x) → Q ((ps ++ qs).map D.ref) M') →
      dLcL always (gNm j) dYes te δ (m.map g) (ps.map D.ref) M Q
  | [], ps, M, _, q => ⟨trivial, by
    have := q [] M (fun q hq => (nomatch hq)) rfl (fun i i2 q hq => by simp at hq) (fun i q r hq => by simp at hq) (fun x _ => rfl)
    rwa [List.append_nil] at this⟩
  | r :: m, ps, M, hl, q => by
    rw [List.length_cons] at hl
    refine ⟨trivial, by rw [List.length_map]; omega, ?_⟩
    refine ite_t (B := dLcL always (gNm j) dYes te δ (m.map g) (ps.map D.ref) M Q) (h r M _ fun p hp => ?_)
    have e : ps.map D.ref ++ [D.ref p] = (ps ++ [p]).map D.ref := by rw [List.map_append]; rfl
    rw [e]
    refine lc_refs g f h m (ps ++ [p]) _ (by rw [List.length_append, List.length_singleton]; omega) fun qs M' h1 h2 h3 h4 h5 => ?_
    rw [List.append_assoc]
    have pn : p ∉ qs := fun m => by have := h1 p m; rw [mput_same] at this; cases this
    refine q (p :: qs) M' (fun x hx => ?_) (by rw [List.length_cons, h2, List.length_cons]) (fun i i2 x hi hi2 => ?_) (fun i x r' hi hr => ?_) (fun x hx => ?_)
    · rcases List.mem_cons.mp hx with rfl | hx
      · exact hp
      · have := h1 x hx
        rwa [mput_ne (fun z : x = p => pn (z ▸ hx))] at this
    · cases i with
      | zero =>
        cases i2 with
        | zero => rfl
        | succ i2 => simp at hi hi2; subst hi; exact absurd (List.mem_of_getElem? hi2) pn
      | succ i =>
        cases i2 with
        | zero => simp at hi hi2; subst hi2; exact absurd (List.mem_of_getElem? hi) pn
        | succ i2 => rw [h3 i i2 x (by simpa using hi) (by simpa using hi2)]
    · cases i with
      | zero =>
        simp at hi hr; subst hi; subst hr
        rw [h5 p pn, mput_same]
      | succ i => exact h4 i x r' (by simpa using hi) (by simpa using hr)
    · rw [h5 x (fun m => hx (List.mem_cons_of_mem _ m)), mput_ne fun z : x = p => hx (z ▸ List.mem_cons_self)]
/-- a comprehension that makes a value of each, the memory as it is -/
theorem lc_ofM {α : Type} {j : Nat} {te : DE} {δ : DS0} {M : Mem} {Q : List D → Mem → Prop} (g f : α → D) (P : α → Prop) (h : ∀ r (K : DK), P r → K (f r) M → te (δ.set j (some (g r))) M K) :
    ∀ (m : List α) (acc : List D), (∀ r, r ∈ m → P r) → acc.length + m.length ≤ sizeLine → Q (acc ++ m.map f) M → dLcL always (gNm j) dYes te δ (m.map g) acc M Q
  | [], acc, _, _, q => ⟨trivial, by simpa using q⟩
  | r :: m, acc, hp, hl, q => by
    refine ⟨trivial, by rw [List.length_cons] at hl; omega, ?_⟩
    refine ite_t (B := dLcL always (gNm j) dYes te δ (m.map g) acc M Q) (h r _ (hp r List.mem_cons_self) (lc_ofM g f P h m _ (fun y hy => hp y (List.mem_cons_of_mem _ hy)) ?_ ?_))
    · rw [List.length_append, List.length_singleton]; rw [List.length_cons] at hl; omega
    · rw [List.append_assoc]; exact q
/-! a list of lists, all for changing -/
structure RowsAt (st p : Addr) (qs : List Addr) (rs : List (List Rat)) (M : Mem) : Prop where
  at_ : M p = some (.lst (qs.map D.ref))
  len : qs.length = rs.length
  inj : ∀ (i i2 : Nat) q, qs[i]? = some q → qs[i2]? = some q → i = i2
  out : p ∉ qs
  np : p ≠ st
  nq : st ∉ qs
  row : ∀ (i : Nat) q, qs[i]? = some q → M q = some (.lst (ratsD (rowR rs i)))
theorem RowsAt.off {st p qs rs M M'} (h : RowsAt st p qs rs M) (e : Off st M M') : RowsAt st p qs rs M' :=
  ⟨(e p h.np).trans h.at_, h.len, h.inj, h.out, h.np, h.nq, fun i q hi => (e q fun z => h.nq (z ▸ List.mem_of_getElem? hi)).trans (h.row i q hi)⟩
theorem RowsAt.get {st p qs rs M} (h : RowsAt st p qs rs M) {i : Nat} (hi : i < rs.length) : ∃ q, qs[i]? = some q ∧ atI (qs.map D.ref) (i : Int) = some (.ref q) ∧ M q = some (.lst (ratsD (rowR rs i))) := by
  have hl := h.len
  have e : qs[i]? = some qs[i] := List.getElem?_eq_getElem (by omega)
  refine ⟨qs[i], e, atI_nn (by omega) ?_, h.row i _ e⟩
  show (qs.map D.ref)[i]? = _
  rw [List.getElem?_map, e]; rfl
theorem RowsAt.ne {st p qs rs M} (h : RowsAt st p qs rs M) {q : Addr} (hq : M q = none) : q ≠ p ∧ q ∉ qs := by
  refine ⟨fun e => ?_, fun m => ?_⟩
  · rw [e, h.at_] at hq; cases hq
  · obtain ⟨i, hi, e⟩ := List.getElem_of_mem m
    have := h.row i q (by rw [List.getElem?_eq_getElem hi, e])
    rw [hq] at this; cases this
theorem RowsAt.put {st p qs rs M} (h : RowsAt st p qs rs M) {i : Nat} {q : Addr} {r : List Rat} (hi : i < rs.length) (hq : M q = none) (hn : q ≠ st) :
    RowsAt st p (qs.set i q) (rs.set i r) (mput (mput M q (.lst (ratsD r))) p (.lst ((qs.map D.ref).set i (.ref q)))) := by
  have hl := h.len
  obtain ⟨n1, n2⟩ := h.ne hq
  have gt : ∀ k x, (qs.set i q)[k]? = some x → (k = i ∧ x = q) ∨ (k ≠ i ∧ qs[k]? = some x) := fun k x e => by
    by_cases ek : k = i
    · rw [ek, List.getElem?_set_self (by omega)] at e; exact .inl ⟨ek, (Option.some.inj e).symm⟩
    · rw [List.getElem?_set_ne (Ne.symm ek)] at e; exact .inr ⟨ek, e⟩
  refine ⟨by rw [mput_same, ← List.map_set], by rw [List.length_set, List.length_set, hl], fun a b x ha hb => ?_, fun m => ?_, h.np, fun m => ?_, fun k x hk => ?_⟩
  · rcases gt a x ha with ⟨a1, a2⟩ | ⟨a1, a2⟩ <;> rcases gt b x hb with ⟨b1, b2⟩ | ⟨b1, b2⟩
    · omega
    · exact absurd (a2 ▸ List.mem_of_getElem? b2) n2
    · exact absurd (b2 ▸ List.mem_of_getElem? a2) n2
    · exact h.inj a b x a2 b2
  · rcases List.mem_or_eq_of_mem_set m with m | m
    · exact h.out m
    · exact n1 m.symm
  · rcases List.mem_or_eq_of_mem_set m with m | m
    · exact h.nq m
    · exact hn m.symm
  · have hkl : k < rs.length := by have := (List.getElem?_eq_some_iff.mp hk).1; rw [List.length_set] at this; omega
    rw [set_row hkl]
    rcases gt k x hk with ⟨a1, a2⟩ | ⟨a1, a2⟩
    · rw [if_pos a1, a2, mput_ne n1, mput_same]
    · have m := List.mem_of_getElem? a2
      rw [if_neg a1, mput_ne (fun e : x = p => h.out (e ▸ m)), mput_ne (fun e : x = q => n2 (e ▸ m))]
      exact h.row k x a2
theorem RowsAt.app {st p qs rs M} (h : RowsAt st p qs rs M) {q : Addr} {r : List Rat} (hq : M q = none) (hn : q ≠ st) :
    RowsAt st p (qs ++ [q]) (rs ++ [r]) (mput (mput M q (.lst (ratsD r))) p (.lst (qs.map D.ref ++ [.ref q]))) := by
  have hl := h.len
  obtain ⟨n1, n2⟩ := h.ne hq
  have gt : ∀ k x, (qs ++ [q])[k]? = some x → (k = qs.length ∧ x = q) ∨ (k < qs.length ∧ qs[k]? = some x) := fun k x e => by
    by_cases ek : k < qs.length
    · rw [List.getElem?_append_left ek] at e; exact .inr ⟨ek, e⟩
    · rw [List.getElem?_append_right (by omega)] at e
      by_cases e0 : k = qs.length
      · rw [e0, Nat.sub_self] at e; exact .inl ⟨e0, (Option.some.inj e).symm⟩
      · rw [List.getElem?_eq_none (by rw [List.length_singleton]; omega)] at e; cases e
  refine ⟨by rw [mput_same, List.map_append]; rfl, by rw [List.length_append, List.length_append, hl]; rfl, fun a b x ha hb => ?_, fun m => ?_, h.np, fun m => ?_, fun k x hk => ?_⟩
  · rcases gt a x ha with ⟨a1, a2⟩ | ⟨a1, a2⟩ <;> rcases gt b x hb with ⟨b1, b2⟩ | ⟨b1, b2⟩
    · omega
    · exact absurd (a2 ▸ List.mem_of_getElem? b2) n2
    · exact absurd (b2 ▸ List.mem_of_getElem? a2) n2
    · exact h.inj a b x a2 b2
  · rcases List.mem_append.mp m with m | m
    · exact h.out m
    · exact n1 (List.mem_singleton.mp m).symm
  · rcases List.mem_append.mp m with m | m
    · exact h.nq m
    · exact hn (List.mem_singleton.mp m).symm
  · have er : rowR (rs ++ [r]) k = if k = rs.length then r else rowR rs k := by
      unfold rowR
      rcases gt k x hk with ⟨a1, a2⟩ | ⟨a1, a2⟩
      · rw [if_pos (by omega), List.getElem?_append_right (by omega), show k - rs.length = 0 by omega]; rfl
      · rw [if_neg (by omega), List.getElem?_append_left (by omega)]
    rw [er]
    rcases gt k x hk with ⟨a1, a2⟩ | ⟨a1, a2⟩
    · rw [if_pos (by omega), a2, mput_ne n1, mput_same]
    · have m := List.mem_of_getElem? a2
      rw [if_neg (by omega), mput_ne (fun e : x = p => h.out (e ▸ m)), mput_ne (fun e : x = q => n2 (e ▸ m))]
      exact h.row k x a2
theorem RowsAt.swap {st p qs rs M} (h : RowsAt st p qs rs M) {i j : Nat} {qi qj : Addr} (hi : i < rs.length) (hj : j < rs.length) (ei : qs[i]? = some qi) (ej : qs[j]? = some qj) :
    RowsAt st p ((qs.set i qj).set j qi) (swapR rs i j) (mput M p (.lst (((qs.map D.ref).set i (.ref qj)).set j (.ref qi)))) := by
  have hl := h.len
  have gt : ∀ k x, ((qs.set i qj).set j qi)[k]? = some x → qs[if k = j then i else if k = i then j else k]? = some x := fun k x e => by
    by_cases e1 : k = j
    · rw [e1, List.getElem?_set_self (by rw [List.length_set]; omega)] at e
      rw [if_pos e1, ei]; exact e
    · rw [List.getElem?_set_ne (Ne.symm e1)] at e
      rw [if_neg e1]
      by_cases e2 : k = i
      · rw [e2, List.getElem?_set_self (by omega)] at e
        rw [if_pos e2, ej]; exact e
      · rw [List.getElem?_set_ne (Ne.symm e2)] at e
        rw [if_neg e2]; exact e
  refine ⟨by rw [mput_same, List.map_set, List.map_set], by rw [List.length_set, List.length_set, swap_len, hl], fun a b x ha hb => ?_, fun m => ?_, h.np, fun m => ?_, fun k x hk => ?_⟩
  · have := h.inj _ _ x (gt a x ha) (gt b x hb)
    split at this <;> split at this <;> (try split at this) <;> (try split at this) <;> omega
  · obtain ⟨k, hk, e⟩ := List.getElem_of_mem m
    exact h.out (List.mem_of_getElem? (gt k p (by rw [List.getElem?_eq_getElem hk, e])))
  · obtain ⟨k, hk, e⟩ := List.getElem_of_mem m
    exact h.nq (List.mem_of_getElem? (gt k st (by rw [List.getElem?_eq_getElem hk, e])))
  · have hkl : k < rs.length := by have := (List.getElem?_eq_some_iff.mp hk).1; rw [List.length_set, List.length_set] at this; omega
    have g := gt k x hk
    rw [mput_ne (fun e : x = p => h.out (e ▸ List.mem_of_getElem? g)), h.row _ x g, swap_row hi hj hkl]
    split
    · rfl
    · split <;> rfl
theorem RowsAt.upd {st p qs rs M} (h : RowsAt st p qs rs M) {i : Nat} {q : Addr} {r : List Rat} (ei : qs[i]? = some q) : RowsAt st p qs (rs.set i r) (mput M q (.lst (ratsD r))) := by
  have hl := h.len
  have m := List.mem_of_getElem? ei
  refine ⟨(mput_ne (fun e : p = q => h.out (e ▸ m))).trans h.at_, by rw [List.length_set, hl], h.inj, h.out, h.np, h.nq, fun k x hk => ?_⟩
  have hkl : k < rs.length := by have := (List.getElem?_eq_some_iff.mp hk).1; omega
  rw [set_row hkl]
  by_cases e : k = i
  · rw [e, ei] at hk; cases hk
    rw [if_pos e, mput_same]
  · rw [if_neg e, mput_ne (fun z : x = q => e (h.inj k i x hk (z ▸ ei)))]
    exact h.row k x hk
/-- made by a comprehension -/
theorem RowsAt.made {st p : Addr} {qs : List Addr} {m : List (List Rat)} {M M' : Mem} (hs : M st ≠ none) (h1 : ∀ q, q ∈ qs → M q = none) (h2 : qs.length = m.length) (h3 : ∀ (i i2 : Nat) q, qs[i]? = some q → qs[i2]? = some q → i = i2) (h4 : ∀ (i : Nat) q r, qs[i]? = some q → m[i]? = some r → M' q = some (.lst (ratsD r))) (hp : M' p = none) (hn : p ≠ st) : RowsAt st p qs m (mput M' p (.lst (qs.map D.ref))) := by
  have row : ∀ (i : Nat) q, qs[i]? = some q → M' q = some (.lst (ratsD (rowR m i))) := fun i q e => by
    have hi : i < m.length := by have := (List.getElem?_eq_some_iff.mp e).1; omega
    exact h4 i q _ e (by unfold rowR; rw [List.getElem?_eq_getElem hi]; rfl)
  have out : p ∉ qs := fun mm => by
    obtain ⟨i, hi, e⟩ := List.getElem_of_mem mm
    have := row i p (by rw [List.getElem?_eq_getElem hi, e])
    rw [hp] at this; cases this
  exact ⟨mput_same, h2, h3, out, hn, fun mm => hs (h1 st mm), fun i q e => (mput_ne (fun z : q = p => out (z ▸ List.mem_of_getElem? e))).trans (row i q e)⟩
theorem at_neg1 {α : Type} {xs : List α} {x : α} (h : xs[xs.length - 1]? = some x) : atI xs (-1) = some x := by
  have h0 := (List.getElem?_eq_some_iff.mp h).1
  have e : ixN xs.length (-1) = some (xs.length - 1) := by
    unfold ixN
    rw [if_neg (by decide), if_pos (by omega)]
    congr 1; omega
  unfold L2.atI
  rw [e]; exact h
/-- a comprehension that makes a value of each, the memory as it is -/
theorem lc_ofC {α : Type} {j : Nat} {chk : Mem → Prop} {te : DE} {δ : DS0} {M : Mem} {Q : List D → Mem → Prop} (g f : α → D) (P : α → Prop) (hc : chk M) (h : ∀ r (K : DK), P r → K (f r) M → te (δ.set j (some (g r))) M K) :
    ∀ (m : List α) (acc : List D), (∀ r, r ∈ m → P r) → acc.length + m.length ≤ sizeLine → Q (acc ++ m.map f) M → dLcL chk (gNm j) dYes te δ (m.map g) acc M Q
  | [], acc, _, _, q => ⟨hc, by simpa using q⟩
  | r :: m, acc, hp, hl, q => by
    refine ⟨hc, by rw [List.length_cons] at hl; omega, ?_⟩
    refine ite_t (B := dLcL chk (gNm j) dYes te δ (m.map g) acc M Q) (h r _ (hp r List.mem_cons_self) (lc_ofC g f P hc h m _ (fun y hy => hp y (List.mem_cons_of_mem _ hy)) ?_ ?_))
    · rw [List.length_append, List.length_singleton]; rw [List.length_cons] at hl; omega
    · rw [List.append_assoc]; exact q
/-! nets: a plain form of them -/
structure Nt where
  pts : List Str
  apx : List Rat
  rds : List Rdg
/-- the row of a reading -/
def rowN (pts : List Str) (t : List (Str × Int)) : List Rat := pts.map fun n => ((coef t n : Int) : Rat)
theorem rowN_len (pts : List Str) (t : List (Str × Int)) : (rowN pts t).length = pts.length := List.length_map ..
/-- its terms -/
def tsN (pts : List Str) (rds : List Rdg) : List (Rat × List Rat) := rds.map fun r => (r.weight, rowN pts r.terms)
def shiftR (pts : List Str) (apx : List Rat) (r : Rdg) : Rat := r.value - dotR (rowN pts r.terms) apx
/-- right side and total, summed up from the first reading on -/
def rgtR (pts : List Str) (apx : List Rat) (rds : List Rdg) : List Rat := rds.foldl (fun acc r => mapR2 (fun x y => x + y) acc ((rowN pts r.terms).map (r.weight * shiftR pts apx r * ·))) (pts.map fun _ => 0)
def totR (pts : List Str) (apx : List Rat) (rds : List Rdg) : Rat := rds.foldl (fun acc r => acc + r.weight * shiftR pts apx r * shiftR pts apx r) 0
def Nt.w (n : Nt) : Nat := n.pts.length
noncomputable def Nt.nrm (n : Nt) : List (List Rat) := DL.nrm n.w (tsN n.pts n.rds)
noncomputable def Nt.inv (n : Nt) : List (List Rat) := pinvR n.nrm n.w
def Nt.rgt (n : Nt) : List Rat := rgtR n.pts n.apx n.rds
def Nt.tot (n : Nt) : Rat := totR n.pts n.apx n.rds
def ntF : List Str := ["points", "approximations", "readings", "normal", "inverse", "right", "total"]
/-- a net that stands in the memory -/
structure NtAt (AD : Ad) (p a1 a3 : Addr) (n : Nt) (M : Mem) : Prop where
  ins : M p = some (.ins AD.nt ntF [.ref a1, vecD n.apx, .ref a3, matD n.nrm, matD n.inv, vecD n.rgt, .rat n.tot])
  pts : M a1 = some (.lst (n.pts.map D.str))
  rds : M a3 = some (.lst (n.rds.map (rdgD AD)))
  ne : a1 ≠ a3
theorem NtAt.np1 {AD p a1 a3 n M} (h : NtAt AD p a1 a3 n M) : p ≠ a1 := fun e => by have := h.ins; rw [e, h.pts] at this; cases this
theorem NtAt.np3 {AD p a1 a3 n M} (h : NtAt AD p a1 a3 n M) : p ≠ a3 := fun e => by have := h.ins; rw [e, h.rds] at this; cases this
/-- but at three places what stands stays -/
def KpN (p a1 a3 : Addr) (M M' : Mem) : Prop := ∀ x o, (x ≠ p ∧ x ≠ a1 ∧ x ≠ a3) → M x = some o → M' x = some o
theorem KpN.refl {p a1 a3 M} : KpN p a1 a3 M M := fun _ _ _ h => h
theorem KpN.trans {p a1 a3 M M1 M2} (h : KpN p a1 a3 M M1) (k : KpN p a1 a3 M1 M2) : KpN p a1 a3 M M2 := fun x o n e => k x o n (h x o n e)
/-- a row and a column of zeros more -/
def widR (m : List (List Rat)) : List (List Rat) := m.map (fun r => r ++ [0]) ++ [List.replicate (m.length + 1) 0]
/-! nets: sums over the readings, sizes -/
structure WOk (q : Rat) : Prop where
  pos : 0 < q
  cd : CD 784 (2 ^ 22) q
def VOk (q : Rat) : Prop := CD 27720 (2 ^ 40) q
structure RdN (r : Rdg) : Prop where
  ok : RdgOk r
  nd : (r.terms.map Prod.fst).Nodup
  cf : ∀ t, t ∈ r.terms → t.2.natAbs ≤ 9
  w : WOk r.weight
  v : VOk r.value
structure NtOk (n : Nt) : Prop where
  so : ∀ x, x ∈ n.pts → SO x
  ro : ∀ r, r ∈ n.rds → RdN r
  nd : n.pts.Nodup
  len : n.apx.length = n.pts.length
  ap : ∀ q, q ∈ n.apx → VOk q
  sub : ∀ r, r ∈ n.rds → ∀ t, t ∈ r.terms → t.1 ∈ n.pts
  few : n.pts.length ≤ 12
  fewR : n.rds.length ≤ 24
theorem WOk.bt {q : Rat} (h : WOk q) : Bt 22 q := h.cd.bt (by decide) (by decide) (Nat.le_refl _)
theorem VOk.bt {q : Rat} (h : VOk q) : Bt 40 q := CD.bt h (by decide) (by decide) (Nat.le_refl _)
theorem NtOk.nil : NtOk ⟨[], [], []⟩ := ⟨fun _ h => (nomatch h), fun _ h => (nomatch h), List.nodup_nil, rfl, fun _ h => (nomatch h), fun _ h => (nomatch h), by show 0 ≤ 12; decide, by show 0 ≤ 24; decide⟩
theorem coef_le {n : Str} : ∀ {t : List (Str × Int)}, (∀ x, x ∈ t → x.2.natAbs ≤ 9) → (coef t n).natAbs ≤ 9
  | [], _ => by show (0 : Int).natAbs ≤ 9; decide
  | x :: t, h => by
    show ((if x.1 = n then some x.2 else getK (t.map Prod.fst) (t.map Prod.snd) n).getD 0).natAbs ≤ 9
    by_cases e : x.1 = n
    · rw [if_pos e]; exact h x List.mem_cons_self
    · rw [if_neg e]; exact coef_le fun y hy => h y (List.mem_cons_of_mem _ hy)
theorem coef_out {n : Str} {t : List (Str × Int)} (h : n ∉ t.map Prod.fst) : coef t n = 0 := by
  unfold coef; rw [getK_none h]; rfl
theorem rowN_cd {pts : List Str} {t : List (Str × Int)} (h : ∀ x, x ∈ t → x.2.natAbs ≤ 9) : ∀ x, x ∈ rowN pts t → CD 1 (2 ^ 4) x := fun x hx => by
  obtain ⟨n, _, rfl⟩ := List.mem_map.mp hx
  exact cd_int (Nat.le_trans (coef_le h) (by decide))
theorem rowN_sz {pts : List Str} {t : List (Str × Int)} (h : ∀ x, x ∈ t → x.2.natAbs ≤ 9) : SzV 4 (rowN pts t) := ⟨1, by decide, by decide, rowN_cd h⟩
theorem apx_sz {xs : List Rat} (h : ∀ q, q ∈ xs → VOk q) : SzV 40 xs := ⟨27720, by decide, by decide, h⟩
/-- value minus what the row reads -/
def shf (pts : List Str) (apx : List Rat) (t : List (Str × Int)) (v : Rat) : Rat := v - dotR (rowN pts t) apx
theorem shf_cd {pts : List Str} {apx : List Rat} {t : List (Str × Int)} {v : Rat} (h : ∀ x, x ∈ t → x.2.natAbs ≤ 9) (ha : ∀ q, q ∈ apx → VOk q) (hv : VOk v) (few : pts.length ≤ 12) : CD 27720 (2 ^ 49) (shf pts apx t v) := by
  have d := cd_dot2 (rowN pts t) apx (rowN_cd h) ha
  rw [Nat.one_mul] at d
  have d2 := d.mono (N' := 2 ^ 48) (by
    rw [rowN_len]
    refine Nat.le_trans (Nat.mul_le_mul_right _ few) ?_
    decide)
  exact (CD.sub hv d2).mono (by decide)
/-- sums of weight times a number that terms and value give -/
def wsum (φ : List (Str × Int) → Rat → Rat) : List Rdg → Rat
  | [] => 0
  | r :: l => r.weight * φ r.terms r.value + wsum φ l
theorem wsum_app (φ : List (Str × Int) → Rat → Rat) : ∀ a b : List Rdg, wsum φ (a ++ b) = wsum φ a + wsum φ b
  | [], b => by show wsum φ b = 0 + _; grind
  | r :: a, b => by
    show _ + wsum φ (a ++ b) = (_ + wsum φ a) + _
    rw [wsum_app φ a b, Rat.add_assoc]
theorem wsum_congr {φ ψ : List (Str × Int) → Rat → Rat} : ∀ {l : List Rdg}, (∀ r, r ∈ l → φ r.terms r.value = ψ r.terms r.value) → wsum φ l = wsum ψ l
  | [], _ => rfl
  | r :: l, h => by
    show r.weight * φ r.terms r.value + wsum φ l = r.weight * ψ r.terms r.value + wsum ψ l
    rw [h r List.mem_cons_self, wsum_congr fun s hs => h s (List.mem_cons_of_mem _ hs)]
theorem wsum_erase (φ : List (Str × Int) → Rat → Rat) {r : Rdg} : ∀ {l : List Rdg} {i : Nat}, l[i]? = some r → wsum φ l = r.weight * φ r.terms r.value + wsum φ (l.eraseIdx i)
  | [], _, h => by simp at h
  | x :: l, 0, h => by simp at h; subst h; rfl
  | x :: l, i + 1, h => by
    have ih := wsum_erase φ (l := l) (i := i) (by simpa using h)
    show x.weight * φ x.terms x.value + wsum φ l = _ + (x.weight * φ x.terms x.value + wsum φ (l.eraseIdx i))
    rw [ih]; grind
theorem wsum_cd {D1 D2 N1 N2 : Nat} {φ : List (Str × Int) → Rat → Rat} : ∀ {l : List Rdg}, (∀ r, r ∈ l → CD D1 N1 r.weight ∧ CD D2 N2 (φ r.terms r.value)) → CD (D1 * D2) (l.length * (N1 * N2)) (wsum φ l)
  | [], _ => cd_zero
  | r :: l, h => by
    obtain ⟨a, b⟩ := h r List.mem_cons_self
    refine ((a.mul b).add (wsum_cd fun s hs => h s (List.mem_cons_of_mem _ hs))).mono ?_
    rw [List.length_cons, Nat.add_mul, Nat.one_mul, Nat.add_comm]; exact Nat.le_refl _
theorem ent_ws (pts : List Str) (i j : Nat) : ∀ l : List Rdg, entR (tsN pts l) i j = wsum (fun t _ => gtR (rowN pts t) i * gtR (rowN pts t) j) l
  | [] => rfl
  | r :: l => by
    show r.weight * gtR (rowN pts r.terms) i * gtR (rowN pts r.terms) j + entR (tsN pts l) i j = r.weight * (gtR (rowN pts r.terms) i * gtR (rowN pts r.terms) j) + _
    rw [ent_ws pts i j l, Rat.mul_assoc]
theorem gtR_plus {a b : List Rat} {i : Nat} (h1 : i < a.length) (h2 : i < b.length) : gtR (mapR2 (fun x y => x + y) a b) i = gtR a i + gtR b i := by
  have := mapR2_get (f := fun x y => x + y) (gtR_some h1) (gtR_some h2)
  show ((mapR2 (fun x y => x + y) a b)[i]?).getD 0 = _
  rw [this]; rfl
theorem rgt_fold (pts : List Str) (apx : List Rat) : ∀ (l : List Rdg) (acc : List Rat), acc.length = pts.length →
    (l.foldl (fun acc r => mapR2 (fun x y => x + y) acc ((rowN pts r.terms).map (r.weight * shiftR pts apx r * ·))) acc).length = pts.length ∧
    ∀ i, i < pts.length → gtR (l.foldl (fun acc r => mapR2 (fun x y => x + y) acc ((rowN pts r.terms).map (r.weight * shiftR pts apx r * ·))) acc) i = gtR acc i + wsum (fun t v => shf pts apx t v * gtR (rowN pts t) i) l
  | [], acc, h => ⟨h, fun i _ => by show gtR acc i = gtR acc i + 0; grind⟩
  | r :: l, acc, h => by
    have h2 : (mapR2 (fun x y => x + y) acc ((rowN pts r.terms).map (r.weight * shiftR pts apx r * ·))).length = pts.length := by rw [mapR2_len _ _ (by rw [List.length_map, rowN_len, h]), h]
    obtain ⟨a, b⟩ := rgt_fold pts apx l _ h2
    refine ⟨a, fun i hi => ?_⟩
    show gtR (l.foldl _ (mapR2 (fun x y => x + y) acc ((rowN pts r.terms).map (r.weight * shiftR pts apx r * ·)))) i = gtR acc i + (r.weight * (shf pts apx r.terms r.value * gtR (rowN pts r.terms) i) + wsum _ l)
    rw [b i hi, gtR_plus (by omega) (by rw [List.length_map, rowN_len]; exact hi), gtR_mapQ (by rw [rowN_len]; exact hi)]
    show gtR acc i + r.weight * shf pts apx r.terms r.value * gtR (rowN pts r.terms) i + _ = _
    grind
theorem zeros_gt (pts : List Str) {i : Nat} : gtR (pts.map fun _ => (0 : Rat)) i = 0 := by
  unfold gtR; rw [List.getElem?_map]; cases pts[i]? <;> rfl
theorem rgt_len (pts : List Str) (apx : List Rat) (l : List Rdg) : (rgtR pts apx l).length = pts.length := (rgt_fold pts apx l _ (List.length_map ..)).1
theorem rgt_ws (pts : List Str) (apx : List Rat) (l : List Rdg) {i : Nat} (hi : i < pts.length) : gtR (rgtR pts apx l) i = wsum (fun t v => shf pts apx t v * gtR (rowN pts t) i) l := by
  have := (rgt_fold pts apx l _ (List.length_map (fun _ => (0 : Rat)))).2 i hi
  rw [zeros_gt] at this
  show gtR (l.foldl _ _) i = _
  rw [this]; grind
theorem tot_fold (pts : List Str) (apx : List Rat) : ∀ (l : List Rdg) (t : Rat), l.foldl (fun acc r => acc + r.weight * shiftR pts apx r * shiftR pts apx r) t = t + wsum (fun t v => shf pts apx t v * shf pts apx t v) l
  | [], t => by show t = t + 0; grind
  | r :: l, t => by
    show l.foldl _ (t + r.weight * shiftR pts apx r * shiftR pts apx r) = t + (r.weight * (shf pts apx r.terms r.value * shf pts apx r.terms r.value) + _)
    rw [tot_fold pts apx l]
    show t + r.weight * shf pts apx r.terms r.value * shf pts apx r.terms r.value + _ = _
    grind
theorem tot_ws (pts : List Str) (apx : List Rat) (l : List Rdg) : totR pts apx l = wsum (fun t v => shf pts apx t v * shf pts apx t v) l := by
  unfold totR; rw [tot_fold]; grind
theorem tsN_app (pts : List Str) (a b : List Rdg) : tsN pts (a ++ b) = tsN pts a ++ tsN pts b := List.map_append ..
/-! sizes -/
theorem NtOk.nrm_mt (n : Nt) : Mt n.w n.w n.nrm := _root_.DL.nrm_mt _ _
theorem NtOk.inv_mt (n : Nt) : Mt n.w n.w n.inv := pinv_mt (NtOk.nrm_mt n)
theorem NtOk.inv_ok (n : Nt) : condB n.nrm n.inv n.w n.w = true := pinv_ok (NtOk.nrm_mt n)
section
variable {n : Nt}
theorem NtOk.wpos (h : NtOk n) : ∀ t, t ∈ tsN n.pts n.rds → 0 < t.1 := fun t ht => by
  obtain ⟨r, hr, rfl⟩ := List.mem_map.mp ht
  exact (h.ro r hr).w.pos
theorem NtOk.psd (h : NtOk n) : Psd n.w n.nrm := nrm_psd h.wpos
theorem NtOk.szN (h : NtOk n) : SzM 40 n.nrm := by
  refine ⟨784 * 1, by decide, by decide, fun r hr x hx => ?_⟩
  obtain ⟨i, hi, rfl⟩ := List.mem_map.mp hr
  obtain ⟨j, hj, rfl⟩ := List.mem_map.mp hx
  have hi := (List.mem_range'_1.mp hi).2
  have hj := (List.mem_range'_1.mp hj).2
  rw [ent_ws]
  refine (wsum_cd (D1 := 784) (N1 := 2 ^ 22) (D2 := 1 * 1) (N2 := 2 ^ 4 * 2 ^ 4) fun r hr => ⟨(h.ro r hr).w.cd, ?_⟩).mono ?_
  · exact (rowN_cd (h.ro r hr).cf _ (gtR_mem (by rw [rowN_len]; show i < n.w; omega)).1).mul (rowN_cd (h.ro r hr).cf _ (gtR_mem (by rw [rowN_len]; show j < n.w; omega)).1)
  · exact Nat.le_trans (Nat.mul_le_mul_right _ h.fewR) (by decide)
theorem NtOk.szR (h : NtOk n) : SzV 85 n.rgt := by
  refine ⟨784 * (27720 * 1), by decide, by decide, fun x hx => ?_⟩
  obtain ⟨i, hi, e⟩ := List.getElem_of_mem hx
  have hl : n.rgt.length = n.pts.length := rgt_len ..
  have e2 : gtR n.rgt i = x := by unfold gtR; rw [List.getElem?_eq_getElem hi, e]; rfl
  rw [← e2]
  show CD _ _ (gtR (rgtR n.pts n.apx n.rds) i)
  rw [rgt_ws _ _ _ (by omega)]
  refine (wsum_cd (D1 := 784) (N1 := 2 ^ 22) (D2 := 27720 * 1) (N2 := 2 ^ 49 * 2 ^ 4) fun r hr => ⟨(h.ro r hr).w.cd, ?_⟩).mono ?_
  · exact (shf_cd (h.ro r hr).cf h.ap (h.ro r hr).v h.few).mul (rowN_cd (h.ro r hr).cf _ (gtR_mem (by rw [rowN_len]; omega)).1)
  · exact Nat.le_trans (Nat.mul_le_mul_right _ h.fewR) (by decide)
theorem NtOk.btT (h : NtOk n) : Bt 130 n.tot := by
  show Bt 130 (totR n.pts n.apx n.rds)
  rw [tot_ws]
  refine (wsum_cd (D1 := 784) (N1 := 2 ^ 22) (D2 := 27720 * 27720) (N2 := 2 ^ 49 * 2 ^ 49) fun r hr => ⟨(h.ro r hr).w.cd, ?_⟩).bt (by decide) (by decide) ?_
  · have := shf_cd (h.ro r hr).cf h.ap (h.ro r hr).v h.few
    exact this.mul this
  · exact Nat.le_trans (Nat.mul_le_mul_right _ h.fewR) (by decide)
theorem NtOk.szX (h : NtOk n) (h5 : n.pts.length ≤ 5) : SzM 90000 n.inv := (pinv_sz (NtOk.nrm_mt n) h5 h5 h.szN).mono (by decide)
end
/-! a point more -/
def wdF (d : Nat) (N : Nat → Nat → Rat) : Nat → Nat → Rat := fun i j => if i < d ∧ j < d then N i j else 0
theorem dt_succ (d : Nat) (f g : Nat → Rat) : dt (d + 1) f g = dt d f g + f d * g d := rfl
theorem wdF_dt {d i j : Nat} {N X P : Nat → Nat → Rat} (h : i < d → j < d → dt d (N i) (fun k => X k j) = P i j) : dt (d + 1) (wdF d N i) (fun k => wdF d X k j) = wdF d P i j := by
  by_cases hi : i < d
  · by_cases hj : j < d
    · rw [dt_succ]
      have e1 : wdF d N i d = 0 := if_neg fun z => absurd z.2 (Nat.lt_irrefl d)
      have e2 : wdF d P i j = P i j := if_pos ⟨hi, hj⟩
      rw [e1, e2, ← h hi hj]
      have : dt d (wdF d N i) (fun k => wdF d X k j) = dt d (N i) (fun k => X k j) := dt_congr (fun k hk => if_pos ⟨hi, hk⟩) fun k hk => if_pos ⟨hk, hj⟩
      rw [this]; grind
    · have e0 : ∀ k, wdF d X k j = 0 := fun k => if_neg fun z => hj z.2
      rw [dt_comm, dt_zero fun k _ => e0 k, show wdF d P i j = 0 from if_neg fun z => hj z.2]
  · have e0 : ∀ k, wdF d N i k = 0 := fun k => if_neg fun z => hi z.1
    rw [dt_zero fun k _ => e0 k, show wdF d P i j = 0 from if_neg fun z => hi z.1]
theorem Pi.wid {d : Nat} {N X P : Nat → Nat → Rat} (h : Pi d N X P) : Pi (d + 1) (wdF d N) (wdF d X) (wdF d P) := by
  have sy : ∀ {A : Nat → Nat → Rat}, (∀ i j, i < d → j < d → A i j = A j i) → ∀ i j, wdF d A i j = wdF d A j i := fun hA i j => by
    unfold wdF
    by_cases c : i < d ∧ j < d
    · rw [if_pos c, if_pos c.symm, hA i j c.1 c.2]
    · rw [if_neg c, if_neg fun z => c z.symm]
  exact ⟨fun i j _ _ => sy h.ns i j, fun i j _ _ => sy h.xs i j, fun i j _ _ => sy h.ps i j, fun i j _ _ => wdF_dt fun a b => h.nx i j a b, fun i j _ _ => wdF_dt fun a b => h.pn i j a b, fun i j _ _ => wdF_dt fun a b => h.px i j a b⟩
theorem wid_mt {d : Nat} {m : List (List Rat)} (h : Mt d d m) : Mt (d + 1) (d + 1) (widR m) := by
  unfold widR
  refine ⟨by rw [List.length_append, List.length_map, h.len]; rfl, fun r hr => ?_⟩
  rcases List.mem_append.mp hr with hr | hr
  · obtain ⟨s, hs, rfl⟩ := List.mem_map.mp hr
    rw [List.length_append, h.wid s hs]; rfl
  · rw [List.mem_singleton.mp hr, List.length_replicate, h.len]
theorem gtR_snoc0 (r : List Rat) {j : Nat} : gtR (r ++ [0]) j = if j < r.length then gtR r j else 0 := by
  by_cases c : j < r.length
  · rw [if_pos c, gtR_app c]
  · rw [if_neg c]
    unfold gtR
    rw [List.getElem?_append_right (by omega)]
    cases j - r.length <;> rfl
theorem wid_ent {d i j : Nat} {m : List (List Rat)} (h : Mt d d m) : ent (widR m) i j = wdF d (ent m) i j := by
  have hl := h.len
  unfold widR wdF ent rowR
  by_cases hi : i < d
  · rw [List.getElem?_append_left (by rw [List.length_map]; omega), List.getElem?_map, List.getElem?_eq_getElem (by omega)]
    show gtR (m[i] ++ [0]) j = _
    rw [gtR_snoc0, h.wid _ (List.getElem_mem (by omega))]
    by_cases hj : j < d
    · rw [if_pos hj, if_pos ⟨hi, hj⟩]; rfl
    · rw [if_neg hj, if_neg fun z => hj z.2]
  · rw [if_neg fun z => hi z.1, List.getElem?_append_right (by rw [List.length_map]; omega)]
    cases i - (m.map fun r => r ++ [0]).length with
    | zero =>
      show gtR (List.replicate _ 0) j = 0
      unfold gtR; rw [List.getElem?_replicate]; split <;> rfl
    | succ k => rfl
theorem pinv_wid {d : Nat} {N : List (List Rat)} (mN : Mt d d N) (sN : transR N d = N) : pinvR (widR N) (d + 1) = widR (pinvR N d) := by
  have mX : Mt d d (pinvR N d) := pinv_mt mN
  have p := (pi_of mN mX sN (pinv_ok mN)).wid
  have mW := wid_mt mN
  have c := cond_fun mW (wid_mt mX) (fun i j _ _ => wid_ent mN) (fun i j _ _ => wid_ent mX) p
  exact pinv_one mW (pinv_mt mW) (wid_mt mX) (pinv_ok mW) c
theorem rowN_snoc {pts : List Str} {x : Str} {t : List (Str × Int)} (h : ∀ y, y ∈ t → y.1 ∈ pts) (hx : x ∉ pts) : rowN (pts ++ [x]) t = rowN pts t ++ [0] := by
  unfold rowN
  rw [List.map_append]
  congr 1
  show [((coef t x : Int) : Rat)] = [0]
  rw [coef_out fun m => ?_]; rfl
  obtain ⟨y, hy, e⟩ := List.mem_map.mp m
  exact hx (e ▸ h y hy)
theorem dot_snoc {q p : Rat} : ∀ {a b : List Rat}, a.length = b.length → dotR (a ++ [p]) (b ++ [q]) = dotR a b + p * q
  | [], [], _ => by show p * q + 0 = 0 + p * q; grind
  | x :: a, y :: b, h => by
    show x * y + dotR (a ++ [p]) (b ++ [q]) = x * y + dotR a b + p * q
    rw [dot_snoc (by simpa using h), Rat.add_assoc]
  | [], y :: b, h => by cases h
  | x :: a, [], h => by cases h
section
variable {n : Nt} {x : Str} {q : Rat}
def Nt.addP (n : Nt) (x : Str) (q : Rat) : Nt := ⟨n.pts ++ [x], n.apx ++ [q], n.rds⟩
theorem Nt.addP_w : (n.addP x q).w = n.w + 1 := by show (n.pts ++ [x]).length = _; rw [List.length_append]; rfl
theorem NtOk.shf_wid (h : NtOk n) (hx : x ∉ n.pts) {r : Rdg} (hr : r ∈ n.rds) : shf (n.pts ++ [x]) (n.apx ++ [q]) r.terms r.value = shf n.pts n.apx r.terms r.value := by
  unfold shf
  rw [rowN_snoc (h.sub r hr) hx, dot_snoc (by rw [rowN_len, h.len])]; grind
theorem NtOk.row_wid (h : NtOk n) (hx : x ∉ n.pts) {r : Rdg} (hr : r ∈ n.rds) {i : Nat} : gtR (rowN (n.pts ++ [x]) r.terms) i = if i < n.pts.length then gtR (rowN n.pts r.terms) i else 0 := by
  rw [rowN_snoc (h.sub r hr) hx, gtR_snoc0, rowN_len]
theorem wsum_zero {φ : List (Str × Int) → Rat → Rat} : ∀ {l : List Rdg}, (∀ r, r ∈ l → φ r.terms r.value = 0) → wsum φ l = 0
  | [], _ => rfl
  | r :: l, h => by
    show r.weight * φ r.terms r.value + wsum φ l = 0
    rw [h r List.mem_cons_self, wsum_zero fun s hs => h s (List.mem_cons_of_mem _ hs)]; grind
theorem NtOk.nrm_wid (h : NtOk n) (hx : x ∉ n.pts) : (n.addP x q).nrm = widR n.nrm := by
  have mW := wid_mt (NtOk.nrm_mt n)
  have mA := NtOk.nrm_mt (n.addP x q)
  rw [Nt.addP_w] at mA
  refine mA.ext mW fun i j hi hj => ?_
  rw [wid_ent (NtOk.nrm_mt n)]
  have e : ent (n.addP x q).nrm i j = entR (tsN (n.pts ++ [x]) n.rds) i j := ent_bld (by rw [Nt.addP_w]; exact hi) (by rw [Nt.addP_w]; exact hj)
  rw [e, ent_ws]
  unfold wdF
  by_cases c : i < n.w ∧ j < n.w
  · rw [if_pos c]
    have e2 : ent n.nrm i j = entR (tsN n.pts n.rds) i j := ent_bld c.1 c.2
    rw [e2, ent_ws]
    exact wsum_congr fun r hr => by rw [h.row_wid hx hr, h.row_wid hx hr, if_pos (show i < n.pts.length from c.1), if_pos (show j < n.pts.length from c.2)]
  · rw [if_neg c]
    refine wsum_zero fun r hr => ?_
    rw [h.row_wid hx hr, h.row_wid hx hr]
    by_cases c1 : i < n.pts.length
    · rw [if_neg fun c2 : j < n.pts.length => c ⟨c1, c2⟩]; grind
    · rw [if_neg c1]; grind
theorem NtOk.inv_wid (h : NtOk n) (hx : x ∉ n.pts) : (n.addP x q).inv = widR n.inv := by
  have e : (n.addP x q).inv = pinvR (n.addP x q).nrm (n.addP x q).w := rfl
  rw [e, Nt.addP_w, h.nrm_wid hx]
  exact pinv_wid (NtOk.nrm_mt n) (nrm_sym ..)
theorem NtOk.rgt_wid (h : NtOk n) (hx : x ∉ n.pts) : (n.addP x q).rgt = n.rgt ++ [0] := by
  have l1 : (n.addP x q).rgt.length = n.pts.length + 1 := by
    show (rgtR (n.pts ++ [x]) _ _).length = _
    rw [rgt_len, List.length_append]; rfl
  have l2 : (n.rgt ++ [0]).length = n.pts.length + 1 := by
    rw [List.length_append]; show (rgtR n.pts _ _).length + 1 = _; rw [rgt_len]
  refine row_ext (by rw [l1, l2]) fun k hk => ?_
  rw [l2] at hk
  have e : gtR (n.addP x q).rgt k = _ := rgt_ws (n.pts ++ [x]) (n.apx ++ [q]) n.rds (i := k) (by rw [List.length_append]; exact hk)
  rw [e, gtR_snoc0]
  have l3 : n.rgt.length = n.pts.length := rgt_len ..
  by_cases c : k < n.pts.length
  · rw [if_pos (by omega)]
    have e2 : gtR n.rgt k = _ := rgt_ws n.pts n.apx n.rds c
    rw [e2]
    exact wsum_congr fun r hr => by rw [h.shf_wid hx hr, h.row_wid hx hr, if_pos c]
  · rw [if_neg (by omega)]
    exact wsum_zero fun r hr => by rw [h.row_wid hx hr, if_neg c]; grind
theorem NtOk.tot_wid (h : NtOk n) (hx : x ∉ n.pts) : (n.addP x q).tot = n.tot := by
  show totR (n.pts ++ [x]) (n.apx ++ [q]) n.rds = totR n.pts n.apx n.rds
  rw [tot_ws, tot_ws]
  exact wsum_congr fun r hr => by rw [h.shf_wid hx hr]
theorem NtOk.addP (h : NtOk n) (hx : x ∉ n.pts) (sx : SO x) (vq : VOk q) (few : n.pts.length < 12) : NtOk (n.addP x q) := by
  refine ⟨fun y hy => ?_, h.ro, ?_, by show (n.apx ++ [q]).length = (n.pts ++ [x]).length; rw [List.length_append, List.length_append, h.len]; rfl, fun y hy => ?_, fun r hr t ht => List.mem_append_left _ (h.sub r hr t ht), by show (n.pts ++ [x]).length ≤ 12; rw [List.length_append]; show _ + 1 ≤ 12; omega, h.fewR⟩
  · rcases List.mem_append.mp hy with hy | hy
    · exact h.so y hy
    · rw [List.mem_singleton.mp hy]; exact sx
  · exact List.nodup_append.mpr ⟨h.nd, List.nodup_cons.mpr ⟨fun z => (nomatch z), List.nodup_nil⟩, fun a ha b hb e => hx (by rw [List.mem_singleton.mp hb] at e; rw [← e]; exact ha)⟩
  · rcases List.mem_append.mp hy with hy | hy
    · exact h.ap y hy
    · rw [List.mem_singleton.mp hy]; exact vq
end
/-! a reading more -/
section
variable {n : Nt} {r : Rdg}
def Nt.addR (n : Nt) (r : Rdg) : Nt := ⟨n.pts, n.apx, n.rds ++ [r]⟩
theorem Nt.addR_nrm : (n.addR r).nrm = addQ n.nrm (rowN n.pts r.terms) r.weight := by
  have e := nrm_add (w := n.w) (ts := tsN n.pts n.rds) (q := r.weight) (r := rowN n.pts r.terms) (rowN_len ..)
  show _root_.DL.nrm n.w (tsN n.pts (n.rds ++ [r])) = _
  rw [tsN_app]
  exact e.symm
theorem Nt.addR_inv {X' : List (List Rat)} (mX : Mt n.w n.w X') (c : condB (addQ n.nrm (rowN n.pts r.terms) r.weight) X' n.w n.w = true) : X' = (n.addR r).inv := by
  rw [← Nt.addR_nrm] at c
  exact pinv_one (NtOk.nrm_mt (n.addR r)) mX (NtOk.inv_mt (n.addR r)) c (NtOk.inv_ok (n.addR r))
theorem Nt.addR_rgt : (n.addR r).rgt = mapR2 (fun x y => x + y) n.rgt ((rowN n.pts r.terms).map (r.weight * shiftR n.pts n.apx r * ·)) := by
  show rgtR n.pts n.apx (n.rds ++ [r]) = _
  unfold rgtR; rw [List.foldl_append]; rfl
theorem Nt.addR_tot : (n.addR r).tot = n.tot + r.weight * shiftR n.pts n.apx r * shiftR n.pts n.apx r := by
  show totR n.pts n.apx (n.rds ++ [r]) = _
  unfold totR; rw [List.foldl_append]; rfl
theorem NtOk.addR (h : NtOk n) (hr : RdN r) (hs : ∀ t, t ∈ r.terms → t.1 ∈ n.pts) (few : n.rds.length < 24) : NtOk (n.addR r) := by
  refine ⟨h.so, fun s hs2 => ?_, h.nd, h.len, h.ap, fun s hs2 => ?_, h.few, by show (n.rds ++ [r]).length ≤ 24; rw [List.length_append]; show _ + 1 ≤ 24; omega⟩
  · rcases List.mem_append.mp hs2 with m | m
    · exact h.ro s m
    · rw [List.mem_singleton.mp m]; exact hr
  · rcases List.mem_append.mp hs2 with m | m
    · exact h.sub s m
    · rw [List.mem_singleton.mp m]; exact hs
end
/-! a place among readings -/
theorem rd_at {AD : Ad} {l : List Rdg} {i : Nat} {r : Rdg} (h : l[i]? = some r) : atI (l.map (rdgD AD)) (i : Int) = some (rdgD AD r) := by
  refine atI_nn (by omega) ?_
  rw [Int.toNat_natCast, List.getElem?_map, h]; rfl
theorem ix_at {n i : Nat} (h : i < n) : ixN n (i : Int) = some i := by
  unfold ixN
  rw [if_pos (by omega), if_pos (by omega), Int.toNat_natCast]
/-! nets: what their methods do -/
/-- a net in the memory whose sums are what they are -/
structure NtR (AD : Ad) (p a1 a3 : Addr) (n : Nt) (N X : List (List Rat)) (R : List Rat) (t : Rat) (M : Mem) : Prop where
  ins : M p = some (.ins AD.nt ntF [.ref a1, vecD n.apx, .ref a3, matD N, matD X, vecD R, .rat t])
  pts : M a1 = some (.lst (n.pts.map D.str))
  rds : M a3 = some (.lst (n.rds.map (rdgD AD)))
  ne : a1 ≠ a3
section
variable {AD : Ad} {p a1 a3 : Addr} {n : Nt} {N X N' X' : List (List Rat)} {R R' : List Rat} {t t' : Rat} {M M' : Mem}
theorem NtAt.raw (h : NtAt AD p a1 a3 n M) : NtR AD p a1 a3 n n.nrm n.inv n.rgt n.tot M := ⟨h.ins, h.pts, h.rds, h.ne⟩
theorem NtR.at_ (h : NtR AD p a1 a3 n n.nrm n.inv n.rgt n.tot M) : NtAt AD p a1 a3 n M := ⟨h.ins, h.pts, h.rds, h.ne⟩
theorem NtR.mono (h : NtR AD p a1 a3 n N X R t M) (k : KpA M M') : NtR AD p a1 a3 n N X R t M' := ⟨k _ _ h.ins, k _ _ h.pts, k _ _ h.rds, h.ne⟩
theorem NtAt.mono (h : NtAt AD p a1 a3 n M) (k : KpA M M') : NtAt AD p a1 a3 n M' := (h.raw.mono k).at_
theorem NtR.np1 (h : NtR AD p a1 a3 n N X R t M) : p ≠ a1 := fun e => by have := h.ins; rw [e, h.pts] at this; cases this
theorem NtR.np3 (h : NtR AD p a1 a3 n N X R t M) : p ≠ a3 := fun e => by have := h.ins; rw [e, h.rds] at this; cases this
theorem NtR.put (h : NtR AD p a1 a3 n N X R t M) (N' X' : List (List Rat)) (R' : List Rat) (t' : Rat) : NtR AD p a1 a3 n N' X' R' t' (mput M p (.ins AD.nt ntF [.ref a1, vecD n.apx, .ref a3, matD N', matD X', vecD R', .rat t'])) :=
  ⟨mput_same, by rw [mput_ne h.np1.symm]; exact h.pts, by rw [mput_ne h.np3.symm]; exact h.rds, h.ne⟩
theorem KpN.ofA (h : KpA M M') : KpN p a1 a3 M M' := fun x o _ e => h x o e
theorem KpN.putP {o : MO} : KpN p a1 a3 M (mput M p o) := fun x u n e => by rw [mput_ne n.1]; exact e
theorem KpN.put1 {o : MO} : KpN p a1 a3 M (mput M a1 o) := fun x u n e => by rw [mput_ne n.2.1]; exact e
theorem KpN.put3 {o : MO} : KpN p a1 a3 M (mput M a3 o) := fun x u n e => by rw [mput_ne n.2.2]; exact e
end
abbrev NRes := Except (Er × Str) Nt
/-- what a method ends in -/
def AfterN (AD : Ad) (p a1 a3 : Addr) (r : NRes) (M : Mem) (Q : DK) (Ex : DX) : Prop := match r with
  | .error (e, t) => Ex (e.ad AD) [e.fl] [.str t] M
  | .ok n' => ∀ M', NtAt AD p a1 a3 n' M' → KpN p a1 a3 M M' → Q .non M'
def naddP (n : Nt) (x : Str) (q : Rat) : NRes := if x ∈ n.pts then .error (.dup, x) else if n.pts.length = 12 then .error (.lim, "points") else .ok (n.addP x q)
def naddR (n : Nt) (r : Rdg) : NRes := if r.name ∈ n.rds.map Rdg.name then .error (.dup, r.name) else match unk n.pts r.terms with
  | some m => .error (.up, m)
  | none => if n.rds.length = 24 then .error (.lim, "readings") else .ok (n.addR r)
theorem unk_none {pts : List Str} : ∀ {t : List (Str × Int)}, unk pts t = none → ∀ x, x ∈ t → x.1 ∈ pts
  | [], _, _, m => nomatch m
  | (n, c) :: t, h, x, m => by
    have h : (if n ∈ pts then unk pts t else some n) = none := h
    by_cases e : n ∈ pts
    · rw [if_pos e] at h
      rcases List.mem_cons.mp m with m | m
      · rw [m]; exact e
      · exact unk_none h x m
    · rw [if_neg e] at h; cases h
theorem unk_all {pts : List Str} : ∀ {t : List (Str × Int)}, (∀ x, x ∈ t → x.1 ∈ pts) → unk pts t = none
  | [], _ => rfl
  | (n, c) :: t, h => by
    show (if n ∈ pts then unk pts t else some n) = none
    rw [if_pos (h (n, c) List.mem_cons_self)]
    exact unk_all fun x hx => h x (List.mem_cons_of_mem _ hx)
theorem dotOk_n {xs ys : List Rat} {n1 n2 : Nat} (hl : xs.length = ys.length) (h6 : xs.length ≤ 14) (h1 : SzV n1 xs) (h2 : SzV n2 ys) (hn : n1 + n2 + 4 ≤ 16000000) : ∃ B1 B2, DotOk xs ys B1 (2 ^ n1) B2 (2 ^ n2) ∧ B1 * B2 ≤ 2 ^ (n1 + n2) := by
  obtain ⟨B1, p1, b1, c1⟩ := h1
  obtain ⟨B2, p2, b2, c2⟩ := h2
  have bb : B1 * B2 ≤ 2 ^ (n1 + n2) := by rw [Nat.pow_add]; exact Nat.mul_le_mul b1 b2
  have e3 : 2 ^ 4 * (2 ^ n1 * 2 ^ n2) ≤ 2 ^ 16000000 := by
    rw [← Nat.pow_add, ← Nat.pow_add]; exact upSm (by omega)
  exact ⟨B1, B2, ⟨hl, by omega, p1, p2, c1, c2, Nat.le_trans b1 (upSm (by omega)), Nat.le_trans b2 (upSm (by omega)), upSm (by omega), upSm (by omega), Nat.le_trans bb (upSm (by omega)), Nat.le_trans (Nat.mul_le_mul_right _ (show xs.length + 1 ≤ 2 ^ 4 by show _ ≤ 16; omega)) e3⟩, bb⟩
/-- the told heights, the least squares -/
noncomputable def Nt.hts (n : Nt) : List Rat := mapR2 (fun x y => x + y) n.apx (applyR n.inv n.rgt)
noncomputable def Nt.sqs (n : Nt) : Rat := n.tot - dotR n.rgt (applyR n.inv n.rgt)
theorem valM_at {M : Mem} {p : Addr} {xs : List D} (h : M p = some (.lst xs)) : valM (.ref p) M = .lst xs := by unfold valM; simp only [h]
theorem NtOk.szH {n : Nt} (ok : NtOk n) (h5 : n.pts.length ≤ 5) : SzV 90100 (applyR n.inv n.rgt) := (apply_sz (by rw [show n.rgt.length = n.w from rgt_len ..]; exact (NtOk.inv_mt n).wid) (ok.szX h5) ok.szR (by rw [show n.rgt.length = n.pts.length from rgt_len ..]; omega)).up (by decide)
def sp_Net_squares_0871 (AD : Ad) : DSp := fun ds M Q _ => ∃ (p a1 a3 : Addr) (n : Nt), ds = [.ref p] ∧ NtAt AD p a1 a3 n M ∧ NtOk n ∧ n.pts.length ≤ 5 ∧ Q (.rat n.sqs) M
def w_Net_squares_0871 (AD : Ad) : DSt :=
  (dRet (dOp rSub (dFld (· = AD.nt) "total" (dVar 0)) (dCall sp_dot_w (dCons (dFld (· = AD.nt) "right" (dVar 0)) (dCons (dCall sp_apply_w (dCons (dFld (· = AD.nt) "inverse" (dVar 0)) (dCons (dFld (· = AD.nt) "right" (dVar 0)) dNil))) dNil)))))
theorem rd_Net_squares_0871 (AD : Ad) (ds M Q E) (h : sp_Net_squares_0871 AD ds M Q E) : w_Net_squares_0871 AD { nx := fun _ M' => Q .non M', rt := Q } (startD 1 ds) M := by
  obtain ⟨p, a1, a3, n, rfl, A, ok, h5, hq⟩ := h
  have lr : n.rgt.length = n.w := rgt_len ..
  have h5' : n.w ≤ 5 := h5
  have la : (applyR n.inv n.rgt).length = n.w := by rw [apply_len, (NtOk.inv_mt n).len]
  obtain ⟨B1, B2, dk, _⟩ := dotOk_of (xs := n.rgt) (ys := applyR n.inv n.rgt) (by rw [lr, la]) (by omega) ok.szR (ok.szH h5) (by decide)
  refine ⟨_, rfl, _, _, _, _, .inr ⟨p, rfl, A.ins⟩, rfl, rfl, _, rfl, _, _, _, _, .inr ⟨p, rfl, A.ins⟩, rfl, rfl, _, rfl, _, _, _, _, .inr ⟨p, rfl, A.ins⟩, rfl, rfl, _, rfl, _, _, _, _, .inr ⟨p, rfl, A.ins⟩, rfl, rfl, n.inv, n.rgt, 90000, 85, rfl, by rw [lr]; exact (NtOk.inv_mt n).wid, ok.szX h5, ok.szR, by decide, by omega, by rw [(NtOk.inv_mt n).len]; omega, ?_⟩
  refine ⟨n.rgt, applyR n.inv n.rgt, B1, _, B2, _, rfl, dk, ok.btT.smW (by decide), (dot_bt ok.szR (ok.szH h5) (by omega)).smW (by decide), hq⟩
def sp_plus : DSp := fun ds M Q _ => ∃ (xs ys : List Rat), ds = [vecD xs, vecD ys] ∧ (∀ x, x ∈ xs → Sm x) ∧ (∀ x, x ∈ ys → Sm x) ∧ xs.length ≤ 1000000 ∧ Q (vecD (mapR2 (fun x y => x + y) xs ys)) M
def w_plus : DSt :=
  (dRet (dCB rTupOf (dCons (dLc (dZip (dCons (dVar 0) (dCons (dVar 1) dNil))) (gTu 2 (gsCons (gNm 2) (gsCons (gNm 3) gsNil))) dYes (dOp rAdd (dVar 2) (dVar 3)) [2, 3]) dNil)))
theorem rd_plus (ds M Q E) (h : sp_plus ds M Q E) : w_plus { nx := fun _ M' => Q .non M', rt := Q } (startD 4 ds) M := by
  obtain ⟨xs, ys, rfl, hx, hy, hl, hq⟩ := h
  refine ⟨_, rfl, _, rfl, ratsD xs, ratsD ys, .inl rfl, ?_⟩
  refine lc_zip (fun x y => x + y) (fun x y => Sm x ∧ Sm y) ?_ xs ys [] M (fun x y h1 h2 => ⟨hx x h1, hy y h2⟩) ?_ (.inl ⟨_, rfl, hq⟩)
  · rintro x y M' K ⟨h1, h2⟩ k
    exact ⟨_, rfl, _, rfl, h1, h2, k⟩
  · rw [List.length_nil]; exact sz16 (by omega)
def sp_Net_heights (AD : Ad) : DSp := fun ds M Q _ => ∃ (p a1 a3 : Addr) (n : Nt), ds = [.ref p] ∧ NtAt AD p a1 a3 n M ∧ NtOk n ∧ n.pts.length ≤ 5 ∧ Q (vecD n.hts) M
def w_Net_heights (AD : Ad) : DSt :=
  (dRet (dCall sp_plus (dCons (dFld (· = AD.nt) "approximations" (dVar 0)) (dCons (dCall sp_apply_w (dCons (dFld (· = AD.nt) "inverse" (dVar 0)) (dCons (dFld (· = AD.nt) "right" (dVar 0)) dNil))) dNil))))
theorem rd_Net_heights (AD : Ad) (ds M Q E) (h : sp_Net_heights AD ds M Q E) : w_Net_heights AD { nx := fun _ M' => Q .non M', rt := Q } (startD 1 ds) M := by
  obtain ⟨p, a1, a3, n, rfl, A, ok, h5, hq⟩ := h
  have lr : n.rgt.length = n.w := rgt_len ..
  have h5' : n.w ≤ 5 := h5
  refine ⟨_, rfl, _, _, _, _, .inr ⟨p, rfl, A.ins⟩, rfl, rfl, _, rfl, _, _, _, _, .inr ⟨p, rfl, A.ins⟩, rfl, rfl, _, rfl, _, _, _, _, .inr ⟨p, rfl, A.ins⟩, rfl, rfl, n.inv, n.rgt, 90000, 85, rfl, by rw [lr]; exact (NtOk.inv_mt n).wid, ok.szX h5, ok.szR, by decide, by omega, by rw [(NtOk.inv_mt n).len]; omega, ?_⟩
  exact ⟨_, _, rfl, (apx_sz ok.ap).sm (by decide), (ok.szH h5).sm (by decide), by rw [ok.len]; omega, hq⟩
def sp_Reading___init__ (AD : Ad) : DSp := fun ds M Q _ => ∃ (x : Addr) (n t v u : D), ds = [.ref x, n, t, v, u] ∧ M x = some (.ins AD.rd [] []) ∧ Q .non (mput M x (.ins AD.rd ["name", "terms", "value", "weight"] [n, t, v, u]))
def w_Reading___init__ (AD : Ad) : DSt :=
  (dSeq (dFldSet (· = AD.rd) "name" (dVar 0) (dVar 1))
  (dSeq (dFldSet (· = AD.rd) "terms" (dVar 0) (dVar 2))
  (dSeq (dFldSet (· = AD.rd) "value" (dVar 0) (dVar 3))
  (dFldSet (· = AD.rd) "weight" (dVar 0) (dVar 4)))))
theorem rd_Reading___init__ (AD : Ad) (ds M Q E) (h : sp_Reading___init__ AD ds M Q E) : w_Reading___init__ AD { nx := fun _ M' => Q .non M', rt := Q } (startD 5 ds) M := by
  obtain ⟨x, n, t, v, u, rfl, hM, hq⟩ := h
  refine ⟨_, rfl, _, rfl, x, AD.rd, [], [], _, _, rfl, hM, rfl, by decide, rfl, .new (by simp), ?_⟩
  refine ⟨_, rfl, _, rfl, x, AD.rd, _, _, _, _, rfl, mput_same, rfl, by decide, rfl, .new (by decide), ?_⟩
  refine ⟨_, rfl, _, rfl, x, AD.rd, _, _, _, _, rfl, mput_same, rfl, by decide, rfl, .new (by decide), ?_⟩
  refine ⟨_, rfl, _, rfl, x, AD.rd, _, _, _, _, rfl, mput_same, rfl, by decide, rfl, .new (by decide), ?_⟩
  rw [mput_mput, mput_mput, mput_mput]
  exact hq
theorem mdel_new {M : Mem} {x : Addr} {o : MO} (h : M x = none) : mdel (mput M x o) x = M := by
  funext a
  show (if a = x then none else if a = x then some o else M a) = M a
  by_cases e : a = x
  · rw [if_pos e, e, h]
  · rw [if_neg e, if_neg e]
/-- a reading, made and let go -/
theorem mkRd {AD : Ad} {t : DA} {δ : DS0} {M : Mem} {Q : DK} {r : Rdg} (ht : ∀ Q1 : List D → Mem → Prop, Q1 [.str r.name, trmsD r.terms, .rat r.value, .rat r.weight] M → t δ M Q1) (q : Q (rdgD AD r) M) : dMkZ AD.rd (sp_Reading___init__ AD) t δ M Q := by
  refine ht _ fun x hx => ⟨x, _, _, _, _, rfl, mput_same, rfl, _, _, mput_same, ?_⟩
  rw [mput_mput, mdel_new hx]
  exact q
def sp_Net_row (AD : Ad) : DSp := fun ds M Q _ => ∃ (p a1 a3 : Addr) (n : Nt) (N X : List (List Rat)) (R : List Rat) (t : Rat) (r : Rdg), ds = [.ref p, rdgD AD r] ∧ NtR AD p a1 a3 n N X R t M ∧ n.pts.Nodup ∧ n.pts.length ≤ 1000 ∧ (r.terms.map Prod.fst).Nodup ∧ (∀ x, x ∈ r.terms → x.1 ∈ n.pts) ∧ ∀ M', KpA M M' → Q (vecD (rowN n.pts r.terms)) M'
theorem coef_snoc {done : List (Str × Int)} {m : Str} {c : Int} (hd : m ∉ done.map Prod.fst) (x : Str) : coef (done ++ [(m, c)]) x = if m = x then c else coef done x := by
  unfold coef
  rw [List.map_append, List.map_append]
  show (getK (done.map Prod.fst ++ [m]) (done.map Prod.snd ++ [c]) x).getD 0 = _
  rw [getK_snoc (by rw [List.length_map, List.length_map]) hd]
  by_cases e : m = x
  · rw [if_pos e, if_pos e]; rfl
  · rw [if_neg e, if_neg e]
theorem row_set {pts : List Str} {done : List (Str × Int)} {m : Str} {c : Int} {j : Nat} (nd : pts.Nodup) (hj : pts[j]? = some m) (hd : m ∉ done.map Prod.fst) : (ratsD (rowN pts done)).set j (.rat ((c : Int) : Rat)) = ratsD (rowN pts (done ++ [(m, c)])) := by
  obtain ⟨hl, ej⟩ := List.getElem?_eq_some_iff.mp hj
  refine List.ext_getElem? fun i => ?_
  unfold ratsD rowN
  rw [List.getElem?_set, List.getElem?_map, List.getElem?_map, List.getElem?_map, List.getElem?_map]
  by_cases e : j = i
  · subst e
    rw [if_pos rfl, if_pos (by rw [List.length_map, List.length_map]; exact hl), hj]
    show _ = some (D.rat ((coef (done ++ [(m, c)]) m : Int) : Rat))
    rw [coef_snoc hd, if_pos rfl]
  · rw [if_neg e]
    cases h : pts[i]? with
    | none => rfl
    | some x =>
      show some (D.rat ((coef done x : Int) : Rat)) = some (D.rat ((coef (done ++ [(m, c)]) x : Int) : Rat))
      rw [coef_snoc hd, if_neg fun z => e (by
        obtain ⟨hl2, ei⟩ := List.getElem?_eq_some_iff.mp h
        exact (List.getElem_inj nd).mp (by rw [ej, ei]; exact z))]
def w_Net_row (AD : Ad) : DSt :=
  (dSeq (dSet 2 (dLcR (dIt (dFld (· = AD.nt) "points" (dVar 0))) (gNm 5) dYes (dMk (dCons (dC (.int 0)) dNil)) [5]))
  (dSeq (dFor (dIt (dFld (· = AD.rd) "terms" (dVar 1))) (gTu 2 (gsCons (gNm 3) (gsCons (gNm 4) gsNil)))
  (dAsg (dMk (dCons (dVar 4) dNil)) (gSb (dVar 2) (dIdx (dFld (· = AD.nt) "points" (dVar 0)) (dCons (dVar 3) dNil)))))
  (dRet (dCB rTupOf (dCons (dVar 2) dNil)))))
theorem rd_Net_row (AD : Ad) (ds M Q E) (h : sp_Net_row AD ds M Q E) : w_Net_row AD { nx := fun _ M' => Q .non M', rt := Q } (startD 6 ds) M := by
  obtain ⟨p, a1, a3, n, N, X, R, t, r, rfl, A, nd, hl, ndt, sub, hq⟩ := h
  have z0 : D.rat ((0 : Int) : Rat) = D.rat 0 := rfl
  refine ⟨_, rfl, _, _, _, _, .inr ⟨p, rfl, A.ins⟩, rfl, rfl, _, A.pts, ?_⟩
  refine lc_ofD (j := 5) D.str (fun _ => D.rat 0) (fun _ => True) A.pts (fun x K _ q => q) n.pts [] (fun _ _ => trivial) (by show 0 + _ ≤ _; exact sz16 (by omega)) ?_
  rw [List.nil_append]
  intro f hf
  have A1 : ∀ o : MO, NtR AD p a1 a3 n N X R t (mput M f o) := fun o => A.mono (KpA.new hf)
  refine ⟨_, rfl, _, _, _, _, .inl rfl, rfl, rfl, ?_⟩
  refine dLoop_ind (fun rest δ M5 => ∃ (done todo : List (Str × Int)) (b3 b4 : Option D), rest = todo.map trmD ∧ r.terms = done ++ todo ∧ M5 = mput M f (.lst (ratsD (rowN n.pts done))) ∧ δ = [some (.ref p), some (rdgD AD r), some (.ref f), b3, b4, none]) ?_ ?_ _ _ _ ⟨[], r.terms, none, none, rfl, rfl, ?_, rfl⟩
  · rintro d0 xs δ M5 K hK ⟨done, todo, b3, b4, e, et, rfl, rfl⟩
    cases todo with
    | nil => cases e
    | cons y todo =>
      obtain ⟨m, c⟩ := y
      injection e with e1 e2
      subst e1; subst e2
      have hm : m ∈ n.pts := sub (m, c) (by rw [et]; exact List.mem_append_right _ List.mem_cons_self)
      obtain ⟨j, hj, ej⟩ := List.getElem_of_mem hm
      have ej2 : n.pts[j]? = some m := by rw [List.getElem?_eq_getElem hj, ej]
      have hno : ∀ (i : Nat) x, i < j → n.pts[i]? = some x → x ≠ m := fun i x hi hx z => by
        obtain ⟨hl2, ei⟩ := List.getElem?_eq_some_iff.mp hx
        have := (List.getElem_inj nd).mp (show n.pts[i] = n.pts[j] by rw [ej, ei, z])
        omega
      have hd : m ∉ done.map Prod.fst := fun z => by
        rw [et, List.map_append] at ndt
        exact (List.nodup_append.mp ndt).2.2 m z m List.mem_cons_self rfl
      refine ⟨trivial, _, rfl, rfl, _, _, rfl, _, _, rfl, rfl, ?_⟩
      refine ⟨_, rfl, _, rfl, _, rfl, _, _, _, _, .inr ⟨p, rfl, (A1 _).ins⟩, rfl, rfl, ⟨a1, _, rfl, (A1 _).pts⟩, _, rfl, a1, n.pts, m, j, rfl, rfl, (A1 _).pts, ej2, hno, ?_⟩
      refine ⟨f, _, _, j, rfl, rfl, mput_same, ix_at (by rw [ratsD_len, rowN_len]; exact hj), ?_⟩
      rw [mput_mput, row_set nd ej2 hd]
      exact hK _ _ ⟨done ++ [(m, c)], todo, _, _, rfl, by rw [et, List.append_assoc]; rfl, rfl, rfl⟩
  · rintro δ M5 ⟨done, todo, b3, b4, e, et, rfl, rfl⟩
    cases todo with
    | cons y todo => cases e
    | nil =>
      rw [List.append_nil] at et
      refine ⟨trivial, _, rfl, .inr (.inr ⟨f, _, rfl, mput_same, ?_⟩)⟩
      rw [← et]
      exact hq _ (KpA.new hf)
  · have : ratsD (rowN n.pts []) = n.pts.map fun _ => D.rat 0 := by
      unfold ratsD rowN; rw [List.map_map]; rfl
    rw [this]
def sp_scale : DSp := fun ds M Q _ => ∃ (f : Rat) (xs : List Rat), ds = [.rat f, vecD xs] ∧ Sm f ∧ (∀ x, x ∈ xs → Sm x) ∧ xs.length ≤ 1000000 ∧ Q (vecD (xs.map (f * ·))) M
def w_scale : DSt :=
  (dRet (dCB rTupOf (dCons (dLc (dIt (dVar 1)) (gNm 2) dYes (dOp rMul (dVar 0) (dVar 2)) [2]) dNil)))
theorem rd_scale (ds M Q E) (h : sp_scale ds M Q E) : w_scale { nx := fun _ M' => Q .non M', rt := Q } (startD 3 ds) M := by
  obtain ⟨f, xs, rfl, hf, hx, hl, hq⟩ := h
  refine ⟨_, rfl, ?_⟩
  refine lc_map (fun d => match d with | .rat x => .rat (f * x) | d => d) (fun d => ∃ x, d = .rat x ∧ Sm x) ?_ (ratsD xs) [] M (fun d hd => ?_) ?_ (.inl ⟨_, rfl, ?_⟩)
  · rintro d M' K ⟨x, rfl, hs⟩ k
    exact ⟨_, rfl, _, rfl, hf, hs, k⟩
  · obtain ⟨x, hx2, rfl⟩ := rats_mem hd
    exact ⟨x, rfl, hx x hx2⟩
  · rw [ratsD_len, List.length_nil]; exact sz16 (by omega)
  · have e : ([] ++ (ratsD xs).map (fun d => match d with | .rat x => D.rat (f * x) | d => d)) = ratsD (xs.map (f * ·)) := by
      unfold ratsD; rw [List.nil_append, List.map_map, List.map_map]; rfl
    rw [e]
    exact hq
def sp_sum_of : DSp := fun ds M Q _ => ∃ a b : List (List Rat), ds = [matD a, matD b] ∧ Sms a ∧ Sms b ∧ Len a ∧ Q (matD (sumM a b)) M
def w_sum_of : DSt :=
  (dRet (dCB rTupOf (dCons (dLc (dZip (dCons (dVar 0) (dCons (dVar 1) dNil))) (gTu 2 (gsCons (gNm 2) (gsCons (gNm 3) gsNil))) dYes (dCall sp_plus (dCons (dVar 2) (dCons (dVar 3) dNil))) [2, 3]) dNil)))
theorem rd_sum_of (ds M Q E) (h : sp_sum_of ds M Q E) : w_sum_of { nx := fun _ M' => Q .non M', rt := Q } (startD 4 ds) M := by
  obtain ⟨a, b, rfl, ha, hb, hl, hq⟩ := h
  refine ⟨_, rfl, _, rfl, a.map vecD, b.map vecD, .inl rfl, ?_⟩
  refine lc_zipG vecD vecD (fun x y => vecD (mapR2 (fun p q => p + q) x y)) (fun x y => x ∈ a ∧ y ∈ b) ?_ a b [] M (fun x y h1 h2 => ⟨h1, h2⟩) (by rw [List.length_nil]; exact sz16 (by have := hl.1; omega)) (.inl ⟨_, rfl, ?_⟩)
  · rintro x y M' K ⟨h1, h2⟩ k
    exact ⟨_, rfl, _, rfl, x, y, rfl, ha x h1, hb y h2, hl.2 x h1, k⟩
  · rw [List.nil_append, zip_map (fun x y : List Rat => mapR2 (fun p q => p + q) x y) vecD]
    exact hq
def sp_scaled : DSp := fun ds M Q _ => ∃ (q : Rat) (m : List (List Rat)), ds = [.rat q, matD m] ∧ Sm q ∧ Sms m ∧ Len m ∧ Q (matD (scaleM q m)) M
def w_scaled : DSt :=
  (dRet (dCB rTupOf (dCons (dLc (dIt (dVar 1)) (gNm 2) dYes (dCall sp_scale (dCons (dVar 0) (dCons (dVar 2) dNil))) [2]) dNil)))
theorem rd_scaled (ds M Q E) (h : sp_scaled ds M Q E) : w_scaled { nx := fun _ M' => Q .non M', rt := Q } (startD 3 ds) M := by
  obtain ⟨q, m, rfl, hs, hm, hl, hq⟩ := h
  refine ⟨_, rfl, ?_⟩
  refine lc_of vecD (fun r => vecD (r.map (q * ·))) (fun r => r ∈ m) (fun r M' K hr k => ⟨_, rfl, _, rfl, q, r, rfl, hs, hm r hr, hl.2 r hr, k⟩) m [] M (fun r h => h) (by rw [List.length_nil]; exact sz16 (by have := hl.1; omega)) (.inl ⟨_, rfl, ?_⟩)
  have e : [] ++ m.map (fun r => vecD (r.map (q * ·))) = (scaleM q m).map vecD := by unfold scaleM; rw [List.nil_append, List.map_map]; rfl
  rw [e]
  exact hq
def sp_outer : DSp := fun ds M Q _ => ∃ (a b : List Rat), ds = [vecD a, vecD b] ∧ (∀ x, x ∈ a → Sm x) ∧ (∀ x, x ∈ b → Sm x) ∧ a.length ≤ 1000000 ∧ b.length ≤ 1000000 ∧ Q (matD (outerR a b)) M
def w_outer : DSt :=
  (dRet (dCB rTupOf (dCons (dLc (dIt (dVar 0)) (gNm 2) dYes (dCall sp_scale (dCons (dVar 2) (dCons (dVar 1) dNil))) [2]) dNil)))
theorem rd_outer (ds M Q E) (h : sp_outer ds M Q E) : w_outer { nx := fun _ M' => Q .non M', rt := Q } (startD 3 ds) M := by
  obtain ⟨a, b, rfl, ha, hb, hl1, hl2, hq⟩ := h
  refine ⟨_, rfl, ?_⟩
  refine lc_map (fun d => match d with | .rat x => vecD (b.map (x * ·)) | d => d) (fun d => ∃ x, d = .rat x ∧ Sm x) ?_ (ratsD a) [] M (fun d hd => ?_) ?_ (.inl ⟨_, rfl, ?_⟩)
  · rintro d M' K ⟨x, rfl, hs⟩ k
    exact ⟨_, rfl, _, rfl, x, b, rfl, hs, hb, hl2, k⟩
  · obtain ⟨x, hx2, rfl⟩ := rats_mem hd
    exact ⟨x, rfl, ha x hx2⟩
  · rw [ratsD_len, List.length_nil]; exact sz16 (by omega)
  · have e : ([] ++ (ratsD a).map (fun d => match d with | .rat x => vecD (b.map (x * ·)) | d => d)) = (outerR a b).map vecD := by
      unfold ratsD outerR; rw [List.nil_append, List.map_map, List.map_map]; rfl
    rw [e]
    exact hq
def addT (m : List (List Rat)) (r : List Rat) (w : Rat) : List (List Rat) := sumM m (scaleM w (outerR r r))
def sp_add_term : DSp := fun ds M Q _ => ∃ (m : List (List Rat)) (r : List Rat) (w : Rat) (n k : Nat), ds = [matD m, vecD r, .rat w] ∧ Sms m ∧ Len m ∧ Bts n r ∧ Bt k w ∧ k + 2 * n ≤ 4096 ∧ r.length ≤ 1000000 ∧ Q (matD (addT m r w)) M
theorem bt_outer {n : Nat} {r : List Rat} (h : Bts n r) : Btm (2 * n) (outerR r r) := fun row hr x hx => by
  obtain ⟨p, hp, rfl⟩ := List.mem_map.mp hr
  obtain ⟨q, hq2, rfl⟩ := List.mem_map.mp hx
  exact (bt_mul (h p hp) (h q hq2)).mono (by omega)
def w_add_term : DSt :=
  (dRet (dCall sp_sum_of (dCons (dVar 0) (dCons (dCall sp_scaled (dCons (dVar 2) (dCons (dCall sp_outer (dCons (dVar 1) (dCons (dVar 1) dNil))) dNil))) dNil))))
theorem rd_add_term (ds M Q E) (h : sp_add_term ds M Q E) : w_add_term { nx := fun _ M' => Q .non M', rt := Q } (startD 3 ds) M := by
  obtain ⟨m, r, w, n, k, rfl, hm, hl, hr, hw, hb, hrl, hq⟩ := h
  have ho := bt_outer hr
  have lo : Len (outerR r r) := ⟨by unfold outerR; rw [List.length_map]; exact hrl, fun row hrow => by
    obtain ⟨p, hp, rfl⟩ := List.mem_map.mp hrow
    rw [List.length_map]; exact hrl⟩
  refine ⟨_, rfl, _, rfl, _, rfl, _, rfl, r, r, rfl, fun x hx => (hr x hx).sm (by omega), fun x hx => (hr x hx).sm (by omega), hrl, hrl, ?_⟩
  refine ⟨w, outerR r r, rfl, hw.sm (by omega), fun row hrow x hx => (ho row hrow x hx).sm (by omega), lo, ?_⟩
  refine ⟨m, scaleM w (outerR r r), rfl, hm, fun row hrow x hx => ?_, hl, hq⟩
  obtain ⟨row', hr', rfl⟩ := List.mem_map.mp hrow
  obtain ⟨y, hy, rfl⟩ := List.mem_map.mp hx
  exact (bt_mul hw (ho row' hr' y hy)).sm (by omega)
def sp_Net_tally (AD : Ad) : DSp := fun ds M Q _ => ∃ (p a1 a3 : Addr) (n : Nt) (N X : List (List Rat)) (R : List Rat) (t : Rat) (r : Rdg) (q : Rat) (zN zR zt : Nat), ds = [.ref p, rdgD AD r, .rat q] ∧ NtR AD p a1 a3 n N X R t M ∧ NtOk n ∧ RdN r ∧ (∀ x, x ∈ r.terms → x.1 ∈ n.pts) ∧ Bt 30 q ∧
  Mt n.w n.w N ∧ SzM zN N ∧ zN ≤ 1000 ∧ R.length = n.pts.length ∧ SzV zR R ∧ zR ≤ 1000 ∧ Bt zt t ∧ zt ≤ 1000 ∧
  ∀ M', NtR AD p a1 a3 n (addQ N (rowN n.pts r.terms) q) X (mapR2 (fun x y => x + y) R ((rowN n.pts r.terms).map (q * shiftR n.pts n.apx r * ·))) (t + q * shiftR n.pts n.apx r * shiftR n.pts n.apx r) M' → KpN p a1 a3 M M' → Q .non M'
def w_Net_tally (AD : Ad) : DSt :=
  (dSeq (dSet 3 (dMethC AD.nt "row" (sp_Net_row AD) noE (dVar 0) (dCons (dVar 1) dNil)))
  (dSeq (dSet 4 (dOp rSub (dFld (· = AD.rd) "value" (dVar 1)) (dCall sp_dot_w (dCons (dVar 3) (dCons (dFld (· = AD.nt) "approximations" (dVar 0)) dNil)))))
  (dSeq (dFldSet (· = AD.nt) "normal" (dVar 0) (dCall sp_add_term (dCons (dFld (· = AD.nt) "normal" (dVar 0)) (dCons (dVar 3) (dCons (dVar 2) dNil)))))
  (dSeq (dFldSet (· = AD.nt) "right" (dVar 0) (dCall sp_plus (dCons (dFld (· = AD.nt) "right" (dVar 0)) (dCons (dCall sp_scale (dCons (dOp rMul (dVar 2) (dVar 4)) (dCons (dVar 3) dNil))) dNil))))
  (dFldSet (· = AD.nt) "total" (dVar 0) (dOp rAdd (dFld (· = AD.nt) "total" (dVar 0)) (dOp rMul (dOp rMul (dVar 2) (dVar 4)) (dVar 4))))))))
theorem rd_Net_tally (AD : Ad) (ds M Q E) (h : sp_Net_tally AD ds M Q E) : w_Net_tally AD { nx := fun _ M' => Q .non M', rt := Q } (startD 5 ds) M := by
  obtain ⟨p, a1, a3, n, N, X, R, t, r, q, zN, zR, zt, rfl, A, ok, rn, sub, bq, mN, sN, lzN, lR, sR, lzR, bt, lzt, hq⟩ := h
  have few := ok.few
  have sr : SzV 4 (rowN n.pts r.terms) := rowN_sz rn.cf
  have sa : SzV 40 n.apx := apx_sz ok.ap
  have lr : (rowN n.pts r.terms).length = n.pts.length := rowN_len ..
  have bs : Bt 49 (shf n.pts n.apx r.terms r.value) := (shf_cd rn.cf ok.ap rn.v ok.few).bt (by decide) (by decide) (Nat.le_refl _)
  obtain ⟨B1, B2, dk, _⟩ := dotOk_n (xs := rowN n.pts r.terms) (ys := n.apx) (by rw [lr, ok.len]) (by omega) sr sa (by omega)
  have bd : Bt 92 (dotR (rowN n.pts r.terms) n.apx) := by
    have e : dotR (rowN n.pts r.terms) n.apx = r.value - shf n.pts n.apx r.terms r.value := by unfold shf; grind
    rw [e]
    exact (bt_sub rn.v.bt bs).mono (by decide)
  refine ⟨_, rfl, _, _, .inr ⟨p, rfl, A.ins⟩, by decide, _, rfl, .inr ⟨p, rfl, A.ins⟩, p, a1, a3, n, N, X, R, t, r, rfl, A, ok.nd, by omega, rn.nd, sub, fun M1 k1 => ?_⟩
  have A1 := A.mono k1
  refine ⟨_, rfl, _, _, _, _, .inl rfl, rfl, rfl, _, rfl, _, rfl, _, _, _, _, .inr ⟨p, rfl, A1.ins⟩, rfl, rfl, rowN n.pts r.terms, n.apx, B1, _, B2, _, rfl, dk, rn.v.bt.smW (by decide), bd.smW (by decide), ?_⟩
  show (dSeq _ _) _ _ M1
  have eS : r.value - dotR (rowN n.pts r.terms) n.apx = shiftR n.pts n.apx r := rfl
  rw [eS]
  have bs : Bt 49 (shiftR n.pts n.apx r) := bs
  generalize shiftR n.pts n.apx r = s at bs hq
  refine ⟨_, rfl, _, _, _, _, .inr ⟨p, rfl, A1.ins⟩, rfl, rfl, _, rfl, _, rfl, N, rowN n.pts r.terms, q, 4, 30, rfl, sN.smE (by omega), mt_len mN (by show n.pts.length ≤ _; omega), sr.bt, bq, by decide, by rw [lr]; omega, ?_⟩
  refine ⟨_, rfl, p, AD.nt, _, _, _, _, rfl, A1.ins, rfl, by decide, rfl, .old 3 rfl (by decide), ?_⟩
  have A2 := A1.put (addQ N (rowN n.pts r.terms) q) X R t
  refine ⟨_, rfl, _, _, _, _, .inr ⟨p, rfl, A2.ins⟩, rfl, rfl, _, rfl, _, rfl, bq.smW (by decide), bs.smW (by decide), _, rfl, _, _, rfl, (bt_mul bq bs).smW (by decide), sr.sm (by decide), by rw [lr]; omega, R, _, rfl, sR.sm (by omega), (scaleV_sz (bt_mul bq bs) sr).sm (by decide), by rw [lR]; omega, ?_⟩
  refine ⟨_, rfl, p, AD.nt, _, _, _, _, rfl, A2.ins, rfl, by decide, rfl, .old 5 rfl (by decide), ?_⟩
  have A3 := A2.put (addQ N (rowN n.pts r.terms) q) X (mapR2 (fun x y => x + y) R ((rowN n.pts r.terms).map (q * s * ·))) t
  refine ⟨_, rfl, _, _, _, _, .inr ⟨p, rfl, A3.ins⟩, rfl, rfl, _, rfl, _, rfl, bq.smW (by decide), bs.smW (by decide), _, rfl, (bt_mul bq bs).smW (by decide), bs.smW (by decide), bt.smW (by omega), (bt_mul (bt_mul bq bs) bs).smW (by decide), ?_⟩
  refine ⟨_, rfl, p, AD.nt, _, _, _, _, rfl, A3.ins, rfl, by decide, rfl, .old 6 rfl (by decide), ?_⟩
  exact hq _ (A3.put _ X _ _) ((((KpN.ofA k1).trans KpN.putP).trans KpN.putP).trans KpN.putP)
def sp_is_zero : DSp := fun ds M Q _ => ∃ (xs : List Rat), ds = [vecD xs] ∧ Q (.bl (xs.all fun x => decide (x = 0))) M
def w_is_zero : DSt :=
  (dSeq (dFor (dIt (dVar 0)) (gNm 1)
  (dIf (dTst (dOp rNeA (dTop (dVar 1)) (dC (.int 0))))
  (dRet (dC (.bl false)))
  dNext))
  (dRet (dC (.bl true))))
theorem is_zero_loop {De : DEnds} {a : D} {Q : DK} {M : Mem} (hrt : De.rt = Q) : ∀ (xs : List Rat) (a1 : Option D), (xs.all (fun x => decide (x = 0)) = true → ∀ a1, De.nx [some a, a1] M) → (xs.all (fun x => decide (x = 0)) = false → Q (.bl false) M) →
    dLoop always (gNm 1) (dIf (dTst (dOp rNeA (dTop (dVar 1)) (dC (.int 0)))) (dRet (dC (.bl false))) dNext) (ratsD xs) De [some a, a1] M
  | [], a1, h1, _ => ⟨trivial, h1 rfl a1⟩
  | x :: xs, a1, h1, h2 => by
    refine ⟨trivial, _, rfl, x, rfl, .inl ⟨rfl, rfl, fun t ht => ⟨t, rfl, ite_b (fun h => ?_) (fun h => ?_)⟩⟩⟩
    · have hx : x ≠ 0 := fun e => (ht.mp h) (by rw [e]; rfl)
      show De.rt (.bl false) M
      rw [hrt]
      exact h2 (by rw [List.all_cons, decide_eq_false hx]; rfl)
    · have hx : x = 0 := by
        by_cases e : x = 0
        · exact e
        · have : t = true := ht.mpr fun z => e (q_num0.mp (by injection z))
          rw [this] at h; cases h
      have e1 : (x :: xs).all (fun x => decide (x = 0)) = xs.all (fun x => decide (x = 0)) := by rw [List.all_cons, decide_eq_true hx]; rfl
      rw [e1] at h1 h2
      exact is_zero_loop hrt xs _ h1 h2
theorem rd_is_zero (ds M Q E) (h : sp_is_zero ds M Q E) : w_is_zero { nx := fun _ M' => Q .non M', rt := Q } (startD 2 ds) M := by
  obtain ⟨xs, rfl, hq⟩ := h
  refine ⟨_, rfl, is_zero_loop rfl xs none (fun h a1 => ?_) (fun h => ?_)⟩
  · rw [h] at hq; exact hq
  · rw [h] at hq; exact hq
def sp_minus : DSp := fun ds M Q _ => ∃ (xs ys : List Rat), ds = [vecD xs, vecD ys] ∧ (∀ x, x ∈ xs → Sm x) ∧ (∀ x, x ∈ ys → Sm x) ∧ xs.length ≤ 1000000 ∧ Q (vecD (mapR2 (fun x y => x - y) xs ys)) M
def w_minus : DSt :=
  (dRet (dCB rTupOf (dCons (dLc (dZip (dCons (dVar 0) (dCons (dVar 1) dNil))) (gTu 2 (gsCons (gNm 2) (gsCons (gNm 3) gsNil))) dYes (dOp rSub (dVar 2) (dVar 3)) [2, 3]) dNil)))
theorem rd_minus (ds M Q E) (h : sp_minus ds M Q E) : w_minus { nx := fun _ M' => Q .non M', rt := Q } (startD 4 ds) M := by
  obtain ⟨xs, ys, rfl, hx, hy, hl, hq⟩ := h
  refine ⟨_, rfl, _, rfl, ratsD xs, ratsD ys, .inl rfl, ?_⟩
  refine lc_zip (fun x y => x - y) (fun x y => Sm x ∧ Sm y) ?_ xs ys [] M (fun x y h1 h2 => ⟨hx x h1, hy y h2⟩) ?_ (.inl ⟨_, rfl, hq⟩)
  · rintro x y M' K ⟨h1, h2⟩ k
    exact ⟨_, rfl, _, rfl, h1, h2, k⟩
  · rw [List.length_nil]; exact sz16 (by omega)
def sp_with_added_b : DSp := fun ds M Q _ => ∃ (N X : List (List Rat)) (r : List Rat) (q : Rat) (d zn zx zr : Nat), ds = [matD N, matD X, vecD r, .rat q] ∧ Psd d N ∧ Mt d d X ∧ condB N X d d = true ∧ r.length = d ∧ d ≤ 6 ∧ Bt 40 q ∧ 0 < q ∧ SzM zn N ∧ SzM zx X ∧ SzV zr r ∧ 9 * zx + 14 * zr + 6 * zn + 800 ≤ 16000000 ∧
  ∀ X', Mt d d X' → condB (addQ N r q) X' d d = true → Q (matD X') M
def w_with_added_b : DSt :=
  (dSeq (dSet 4 (dCall sp_apply_w (dCons (dVar 1) (dCons (dVar 2) dNil))))
  (dSeq (dSet 5 (dCall sp_minus (dCons (dVar 2) (dCons (dCall sp_apply_w (dCons (dVar 0) (dCons (dVar 4) dNil))) dNil))))
  (dSeq (dSet 6 (dCall sp_dot_w (dCons (dVar 2) (dCons (dVar 4) dNil))))
  (dSeq (dIf (dTru (dCall sp_is_zero (dCons (dVar 5) dNil)))
  (dSeq (dSet 9 (dMeth sp_over (dVar 3) (dCons (dOp rAdd (dMk (dCons (dC (.int 1)) dNil)) (dOp rMul (dVar 3) (dVar 6))) dNil)))
  (dRet (dCall sp_sum_of (dCons (dVar 1) (dCons (dCall sp_scaled (dCons (dUn rNegA (dVar 9)) (dCons (dCall sp_outer (dCons (dVar 4) (dCons (dVar 4) dNil))) dNil))) dNil)))))
  dNext)
  (dSeq (dSet 7 (dCall sp_scale (dCons (dMeth sp_over (dMk (dCons (dC (.int 1)) dNil)) (dCons (dCall sp_dot_w (dCons (dVar 5) (dCons (dVar 5) dNil))) dNil)) (dCons (dVar 5) dNil))))
  (dSeq (dSet 8 (dCall sp_sum_of (dCons (dVar 1) (dCons (dCall sp_scaled (dCons (dMk (dCons (dUn rNegA (dC (.int 1))) dNil)) (dCons (dCall sp_outer (dCons (dVar 7) (dCons (dVar 4) dNil))) dNil))) dNil))))
  (dSeq (dSet 8 (dCall sp_sum_of (dCons (dVar 8) (dCons (dCall sp_scaled (dCons (dMk (dCons (dUn rNegA (dC (.int 1))) dNil)) (dCons (dCall sp_outer (dCons (dVar 4) (dCons (dVar 7) dNil))) dNil))) dNil))))
  (dRet (dCall sp_sum_of (dCons (dVar 8) (dCons (dCall sp_scaled (dCons (dOp rAdd (dMeth sp_over (dMk (dCons (dC (.int 1)) dNil)) (dCons (dVar 3) dNil)) (dVar 6)) (dCons (dCall sp_outer (dCons (dVar 7) (dCons (dVar 7) dNil))) dNil))) dNil)))))))))))
theorem rd_with_added_b (ds M Q E) (h : sp_with_added_b ds M Q E) : w_with_added_b { nx := fun _ M' => Q .non M', rt := Q } (startD 10 ds) M := by
  obtain ⟨N, X, r, q, d, zn, zx, zr, rfl, hN, mX, c, hr, hd, bq, hq, sN, sX, sr, hz, hk⟩ := h
  have mN := hN.mt
  have q0 : q ≠ 0 := by grind
  obtain ⟨k1, k2⟩ := add_cond hN mX c hr hq
  have k3 := fun (e u : List Rat) (E : Rat) => add_cond2 (e := e) (u := u) (E := E) hN mX c hr hq rfl
  have la : (applyR X r).length = d := by rw [apply_len, mX.len]
  have sa := apply_sz (by rw [hr]; exact mX.wid) sX sr (by omega)
  have lX := mX.len
  have lN := mN.len
  refine ⟨_, rfl, _, rfl, X, r, zx, zr, rfl, by rw [hr]; exact mX.wid, sX, sr, by omega, by omega, by omega, ?_⟩
  generalize applyR X r = a at k1 k2 k3 la sa
  have lna : (applyR N a).length = d := by rw [apply_len, lN]
  have sna := apply_sz (by rw [la]; exact mN.wid) sN sa (by omega)
  have le : (mapR2 (fun x y => x - y) r (applyR N a)).length = d := by rw [mapR2_len _ _ (by rw [hr, lna]), hr]
  have se := sub_szV sr sna
  refine ⟨_, rfl, _, rfl, _, rfl, N, a, zn, _, rfl, by rw [la]; exact mN.wid, sN, sa, by omega, by omega, by omega, r, applyR N a, rfl, sr.sm (by omega), sna.sm (by omega), by omega, ?_⟩
  have k4 := fun (u : List Rat) (E : Rat) => k3 _ u E rfl
  generalize mapR2 (fun x y => x - y) r (applyR N a) = e at k1 k2 k4 le se
  obtain ⟨B1, B2, dk, _⟩ := dotOk_of (xs := r) (ys := a) (by omega) (by omega) sr sa (by omega)
  have bs := dot_bt sr sa (by omega)
  refine ⟨_, rfl, _, rfl, r, a, B1, _, B2, _, rfl, dk, ?_⟩
  generalize dotR r a = s at k1 k4 bs
  have bqs := bt_mul bq bs
  have b1 : Bt 0 ((1 : Int) : Rat) := bt_int (by decide)
  have bm1 : Bt 0 ((-1 : Int) : Rat) := bt_int (by decide)
  have e1 : ((1 : Int) : Rat) = 1 := by grind
  refine ⟨_, rfl, e, rfl, _, rfl, ite_b (fun z => ?_) (fun z => ?_)⟩
  · obtain ⟨h0, hc⟩ := k1 z
    have bd := bt_add b1 bqs
    have h0' : ((1 : Int) : Rat) + q * s ≠ 0 := by rw [e1]; exact h0
    have bf := bt_over bq bd
    refine ⟨_, rfl, q, rfl, _, rfl, _, rfl, bq.smW (by decide), bs.smW (by omega), b1.smW (by decide), bqs.smW (by omega), q, _, rfl, bq.smW (by decide), bd.smW (by omega), h0', ?_⟩
    rw [e1] at bf ⊢
    have so := outer_sz2 sa sa
    have mo := outer_mt la la
    have ss := scaleM_sz (bt_neg bf) so
    have ms := scale_mt (q := -(q / (1 + q * s))) mo
    exact ⟨_, rfl, _, rfl, bf.smW (by omega), _, rfl, _, rfl, a, a, rfl, sa.sm (by omega), sa.sm (by omega), by omega, by omega, _, _, rfl, (bt_neg bf).smW (by omega), so.smE (by omega), mt_len mo (by omega), X, _, rfl, sX.smE (by omega), ss.smE (by omega), mt_len mX (by omega), hk _ (plus_mt mX la la) hc⟩
  · have hE := k2 z
    obtain ⟨B3, B4, dk2, _⟩ := dotOk_of (xs := e) (ys := e) rfl (by omega) se se (by omega)
    have bE := dot_bt se se (by omega)
    have bI := bt_over b1 bE
    have su := scaleV_sz bI se
    have lu : (e.map (((1 : Int) : Rat) / dotR e e * ·)).length = d := by rw [List.length_map, le]
    obtain ⟨kc, km⟩ := k4 (e.map (((1 : Int) : Rat) / dotR e e * ·)) (dotR e e) rfl hE rfl
    refine ⟨_, rfl, _, rfl, _, rfl, e, e, B3, _, B4, _, rfl, dk2, _, _, rfl, b1.smW (by decide), bE.smW (by omega), hE, _, rfl, _, e, rfl, bI.smW (by omega), se.sm (by omega), by omega, ?_⟩
    generalize e.map (((1 : Int) : Rat) / dotR e e * ·) = u at su lu kc km
    have so1 := outer_sz2 su sa
    have so2 := outer_sz2 sa su
    have so3 := outer_sz2 su su
    have mo1 := outer_mt lu la
    have mo2 := outer_mt la lu
    have mo3 := outer_mt lu lu
    have ss1 := scaleM_sz bm1 so1
    have ss2 := scaleM_sz bm1 so2
    have m1 := plus_mt (q := ((-1 : Int) : Rat)) mX lu la
    have m2 := plus_mt (q := ((-1 : Int) : Rat)) m1 la lu
    have s1 := sumM_sz sX ss1
    have s2 := sumM_sz s1 ss2
    have bq1 := bt_over b1 bq
    have bc := bt_add bq1 bs
    have ss3 := scaleM_sz bc so3
    refine ⟨_, rfl, _, rfl, _, rfl, u, a, rfl, su.sm (by omega), sa.sm (by omega), by omega, by omega, _, _, rfl, bm1.smW (by decide), so1.smE (by omega), mt_len mo1 (by omega), X, _, rfl, sX.smE (by omega), ss1.smE (by omega), mt_len mX (by omega), ?_⟩
    refine ⟨_, rfl, _, rfl, _, rfl, a, u, rfl, sa.sm (by omega), su.sm (by omega), by omega, by omega, _, _, rfl, bm1.smW (by decide), so2.smE (by omega), mt_len mo2 (by omega), _, _, rfl, s1.smE (by omega), ss2.smE (by omega), mt_len m1 (by omega), ?_⟩
    exact ⟨_, rfl, _, rfl, _, rfl, _, _, rfl, b1.smW (by decide), bq.smW (by decide), q0, _, rfl, bq1.smW (by decide), bs.smW (by omega), _, rfl, _, rfl, u, u, rfl, su.sm (by omega), su.sm (by omega), by omega, by omega, _, _, rfl, bc.smW (by omega), so3.smE (by omega), mt_len mo3 (by omega), _, _, rfl, s2.smE (by omega), ss3.smE (by omega), mt_len m2 (by omega), hk _ km kc⟩
def sp_Net_put (AD : Ad) : DSp := fun ds M Q _ => ∃ (p a1 a3 : Addr) (n : Nt) (r : Rdg), ds = [.ref p, rdgD AD r] ∧ NtAt AD p a1 a3 n M ∧ NtOk n ∧ n.pts.length ≤ 5 ∧ RdN r ∧ (∀ x, x ∈ r.terms → x.1 ∈ n.pts) ∧
  ∀ M', NtR AD p a1 a3 n (n.addR r).nrm (n.addR r).inv (n.addR r).rgt (n.addR r).tot M' → KpN p a1 a3 M M' → Q .non M'
def w_Net_put (AD : Ad) : DSt :=
  (dSeq (dFldSet (· = AD.nt) "inverse" (dVar 0) (dCall sp_with_added_b (dCons (dFld (· = AD.nt) "normal" (dVar 0)) (dCons (dFld (· = AD.nt) "inverse" (dVar 0)) (dCons (dMethC AD.nt "row" (sp_Net_row AD) noE (dVar 0) (dCons (dVar 1) dNil)) (dCons (dFld (· = AD.rd) "weight" (dVar 1)) dNil))))))
  (dDrop (dMethC AD.nt "tally" (sp_Net_tally AD) noE (dVar 0) (dCons (dVar 1) (dCons (dFld (· = AD.rd) "weight" (dVar 1)) dNil)))))
theorem rd_Net_put (AD : Ad) (ds M Q E) (h : sp_Net_put AD ds M Q E) : w_Net_put AD { nx := fun _ M' => Q .non M', rt := Q } (startD 2 ds) M := by
  obtain ⟨p, a1, a3, n, r, rfl, B, ok, h5, rn, sub, hq⟩ := h
  have A := B.raw
  have few := ok.few
  have sr : SzV 4 (rowN n.pts r.terms) := rowN_sz rn.cf
  refine ⟨_, rfl, _, _, _, _, .inr ⟨p, rfl, A.ins⟩, rfl, rfl, _, rfl, _, _, _, _, .inr ⟨p, rfl, A.ins⟩, rfl, rfl, ?_⟩
  refine ⟨_, rfl, _, _, .inr ⟨p, rfl, A.ins⟩, by decide, _, rfl, .inr ⟨p, rfl, A.ins⟩, p, a1, a3, n, _, _, _, _, r, rfl, A, ok.nd, by omega, rn.nd, sub, fun M1 k1 => ?_⟩
  have A1 := A.mono k1
  refine ⟨_, rfl, _, _, _, _, .inl rfl, rfl, rfl, n.nrm, n.inv, rowN n.pts r.terms, r.weight, n.w, 40, 90000, 4, rfl, ok.psd, NtOk.inv_mt n, NtOk.inv_ok n, rowN_len .., by show n.pts.length ≤ 6; omega, rn.w.bt.mono (by decide), rn.w.pos, ok.szN, ok.szX h5, sr, by decide, fun X' mX cX => ?_⟩
  refine ⟨_, rfl, p, AD.nt, _, _, _, _, rfl, A1.ins, rfl, by decide, rfl, .old 4 rfl (by decide), ?_⟩
  have A2 := A1.put n.nrm X' n.rgt n.tot
  refine ⟨_, rfl, _, _, .inr ⟨p, rfl, A2.ins⟩, by decide, _, rfl, _, rfl, _, _, _, _, .inl rfl, rfl, rfl, .inr ⟨p, rfl, A2.ins⟩, p, a1, a3, n, n.nrm, X', n.rgt, n.tot, r, r.weight, 40, 85, 130, rfl, A2, ok, rn, sub, rn.w.bt.mono (by decide), NtOk.nrm_mt n, ok.szN, by decide, rgt_len .., ok.szR, by decide, ok.btT, by decide, fun M3 A3 k3 => ?_⟩
  rw [Nt.addR_inv mX cX, ← Nt.addR_nrm, ← Nt.addR_rgt, ← Nt.addR_tot] at A3
  exact hq _ A3 (((KpN.ofA k1).trans KpN.putP).trans k3)
def sp_Net_add_48dc (AD : Ad) : DSp := fun ds M Q Ex => ∃ (p a1 a3 : Addr) (n : Nt) (r : Rdg), ds = [.ref p, rdgD AD r] ∧ NtAt AD p a1 a3 n M ∧ NtOk n ∧ n.pts.length ≤ 5 ∧ RdN r ∧ AfterN AD p a1 a3 (naddR n r) M Q Ex
def w_Net_add_48dc (AD : Ad) (E : DXS) : DSt :=
  (dSeq (dFor (dIt (dFld (· = AD.nt) "readings" (dVar 0))) (gNm 2)
  (dIf (dTst (dOp rEqA (dFld (· = AD.rd) "name" (dVar 2)) (dFld (· = AD.rd) "name" (dVar 1))))
  (dRaiseF AD.dup "name" (dFld (· = AD.rd) "name" (dVar 1)) E)
  dNext))
  (dSeq (dFor (dIt (dFld (· = AD.rd) "terms" (dVar 1))) (gTu 2 (gsCons (gNm 3) (gsCons (gNm 4) gsNil)))
  (dIf (dTst (dOp rNotInM (dVar 3) (dFld (· = AD.nt) "points" (dVar 0))))
  (dRaiseF AD.up "name" (dVar 3) E)
  dNext))
  (dSeq (dIf (dTst (dOp rEqA (dCB rLen (dCons (dFld (· = AD.nt) "readings" (dVar 0)) dNil)) (dC (.int 24))))
  (dRaiseF AD.lim "what" (dC (.str "readings")) E)
  dNext)
  (dSeq (dDrop (dMethC AD.nt "put" (sp_Net_put AD) E (dVar 0) (dCons (dVar 1) dNil)))
  (dDrop (dApp (dFld (· = AD.nt) "readings" (dVar 0)) (dCons (dVar 1) dNil)))))))
theorem rd_Net_add_48dc (AD : Ad) (ds M Q E) (h : sp_Net_add_48dc AD ds M Q E) : w_Net_add_48dc AD (fun C ns fs _ M' => E C ns fs M') { nx := fun _ M' => Q .non M', rt := Q } (startD 5 ds) M := by
  obtain ⟨p, a1, a3, n, r, rfl, B, ok, h5, rn, hq⟩ := h
  have A := B.raw
  have so : ∀ s, s ∈ n.rds → SO s.name := fun s hs => (ok.ro s hs).ok.nm
  refine ⟨_, rfl, _, _, _, _, .inr ⟨p, rfl, A.ins⟩, rfl, rfl, _, A.rds, ?_⟩
  by_cases c1 : r.name ∈ n.rds.map Rdg.name
  · unfold naddR at hq
    rw [if_pos c1] at hq
    refine dLoop_ind (fun rest δ M5 => M5 = M ∧ ∃ (l : List Rdg) (b2 : Option D), rest = l.map (rdgD AD) ∧ (∀ s, s ∈ l → SO s.name) ∧ r.name ∈ l.map Rdg.name ∧ δ = [some (.ref p), some (rdgD AD r), b2, none, none]) ?_ ?_ _ _ _ ⟨rfl, n.rds, none, rfl, so, c1, rfl⟩
    · rintro d0 xs δ M5 K hK ⟨rfl, l, b2, e, hs, hm, rfl⟩
      cases l with
      | nil => cases e
      | cons s l =>
        injection e with e1 e2
        subst e1; subst e2
        refine ⟨A.rds, _, rfl, _, _, _, _, .inl rfl, rfl, rfl, _, rfl, _, _, _, _, .inl rfl, rfl, rfl, .inl ⟨hs s List.mem_cons_self, rn.ok.nm, eS ⟨_, rfl, ite_d (fun h => ?_) fun h => ?_⟩⟩⟩
        · exact ⟨_, rfl, _, _, _, _, .inl rfl, rfl, rfl, hq⟩
        · refine hK _ _ ⟨rfl, l, _, rfl, fun s hs2 => hs s (List.mem_cons_of_mem _ hs2), ?_, rfl⟩
          rcases List.mem_cons.mp hm with m | m
          · exact absurd m.symm h
          · exact m
    · rintro δ M5 ⟨rfl, l, b2, e, hs, hm, rfl⟩
      cases l with
      | cons x t' => cases e
      | nil => cases hm
  unfold naddR at hq
  rw [if_neg c1] at hq
  refine dLoop_ind (fun rest δ M5 => M5 = M ∧ ∃ (l : List Rdg) (b2 : Option D), rest = l.map (rdgD AD) ∧ (∀ s, s ∈ l → SO s.name) ∧ r.name ∉ l.map Rdg.name ∧ δ = [some (.ref p), some (rdgD AD r), b2, none, none]) ?_ ?_ _ _ _ ⟨rfl, n.rds, none, rfl, so, c1, rfl⟩
  · rintro d0 xs δ M5 K hK ⟨rfl, l, b2, e, hs, hm, rfl⟩
    cases l with
    | nil => cases e
    | cons s l =>
      injection e with e1 e2
      subst e1; subst e2
      refine ⟨A.rds, _, rfl, _, _, _, _, .inl rfl, rfl, rfl, _, rfl, _, _, _, _, .inl rfl, rfl, rfl, .inl ⟨hs s List.mem_cons_self, rn.ok.nm, eS ⟨_, rfl, ite_d (fun h => ?_) fun h => ?_⟩⟩⟩
      · exact absurd (h ▸ List.mem_cons_self) hm
      · exact hK _ _ ⟨rfl, l, _, rfl, fun s hs2 => hs s (List.mem_cons_of_mem _ hs2), fun m => hm (List.mem_cons_of_mem _ m), rfl⟩
  rintro δ M5 ⟨rfl, l, b2, e, hs, hm, rfl⟩
  refine ⟨A.rds, _, rfl, _, _, _, _, .inl rfl, rfl, rfl, ?_⟩
  refine dLoop_ind (fun rest δ M6 => M6 = M5 ∧ ∃ (t : List (Str × Int)) (b3 b4 : Option D), rest = t.map trmD ∧ (∀ x, x ∈ t → SO x.1) ∧ unk n.pts r.terms = unk n.pts t ∧ δ = [some (.ref p), some (rdgD AD r), b2, b3, b4]) ?_ ?_ _ _ _ ⟨rfl, r.terms, none, none, rfl, rn.ok.tm, rfl, rfl⟩
  · rintro d0 xs δ M6 K hK ⟨rfl, t, b3, b4, e, hst, hu, rfl⟩
    cases t with
    | nil => cases e
    | cons x t =>
      obtain ⟨m, c⟩ := x
      injection e with e1 e2
      subst e1; subst e2
      refine ⟨trivial, _, rfl, rfl, _, _, rfl, _, _, rfl, rfl, ?_⟩
      refine ⟨_, rfl, _, rfl, _, _, _, _, .inr ⟨p, rfl, A.ins⟩, rfl, rfl, n.pts.map D.str, valM_at A.pts, hst (m, c) List.mem_cons_self, pl_strs ok.so, nmS ⟨_, rfl, ?_⟩⟩
      by_cases hin : m ∈ n.pts
      · rw [decide_eq_true hin]
        exact ite_f (hK _ _ ⟨rfl, t, _, _, rfl, fun x hx => hst x (List.mem_cons_of_mem _ hx), by rw [hu, show unk n.pts ((m, c) :: t) = unk n.pts t from if_pos hin], rfl⟩)
      · rw [decide_eq_false hin]
        rw [hu, show unk n.pts ((m, c) :: t) = some m from if_neg hin] at hq
        exact ite_t ⟨_, rfl, hq⟩
  · rintro δ M6 ⟨rfl, t, b3, b4, e, hst, hu, rfl⟩
    cases t with
    | cons x t => cases e
    | nil =>
      have hu : unk n.pts r.terms = none := hu
      rw [hu] at hq
      have hq : AfterN AD p a1 a3 (if n.rds.length = 24 then .error (.lim, "readings") else .ok (n.addR r)) M6 Q E := hq
      refine ⟨trivial, _, rfl, _, _, _, _, .inr ⟨p, rfl, A.ins⟩, rfl, rfl, _, n.rds.length, rfl, ⟨_, A.rds, by rw [List.length_map]⟩, .inl ⟨rfl, rfl, eI ⟨_, rfl, ite_d (fun h => ?_) fun h => ?_⟩⟩⟩
      · rw [if_pos (by omega)] at hq; exact hq
      rw [if_neg (by omega)] at hq
      have hq : ∀ M', NtAt AD p a1 a3 (n.addR r) M' → KpN p a1 a3 M6 M' → Q .non M' := hq
      refine ⟨_, rfl, _, _, .inr ⟨p, rfl, A.ins⟩, by decide, _, rfl, .inr ⟨p, rfl, A.ins⟩, p, a1, a3, n, r, rfl, B, ok, h5, rn, unk_none hu, fun M1 A1 k1 => ?_⟩
      refine ⟨_, rfl, _, _, _, _, .inr ⟨p, rfl, A1.ins⟩, rfl, rfl, ⟨_, _, rfl, A1.rds⟩, _, rfl, a3, _, _, rfl, rfl, A1.rds, ?_, ?_⟩
      · rw [List.length_map]; exact sz16lt (Nat.lt_of_le_of_lt ok.fewR (by decide))
      have e1 : n.rds.map (rdgD AD) ++ [rdgD AD r] = (n.addR r).rds.map (rdgD AD) := by
        show _ = (n.rds ++ [r]).map _
        rw [List.map_append]; rfl
      rw [e1]
      exact hq _ ⟨by rw [mput_ne A1.np3]; exact A1.ins, by rw [mput_ne A1.ne]; exact A1.pts, mput_same, A1.ne⟩ (k1.trans KpN.put3)
def sp_widened : DSp := fun ds M Q _ => ∃ (m : List (List Rat)), ds = [matD m] ∧ m.length ≤ 1000 ∧ (∀ r, r ∈ m → r.length ≤ 1000) ∧ ∀ M', KpA M M' → Q (matD (widR m)) M'
def w_widened : DSt :=
  (dSeq (dSet 1 (dLcR (dIt (dVar 0)) (gNm 2) dYes (dOp rCatT (dVar 2) (dCB rTup (dCons (dMk (dCons (dC (.int 0)) dNil)) dNil))) [2]))
  (dSeq (dDrop (dApp (dVar 1) (dCons (dCB rTupOf (dCons (dLc (dRng1 (dCons (dOp rAdd (dCB rLen (dCons (dVar 0) dNil)) (dC (.int 1))) dNil)) (gNm 3) dYes (dMk (dCons (dC (.int 0)) dNil)) [3]) dNil)) dNil)))
  (dRet (dCB rTupOf (dCons (dVar 1) dNil)))))
theorem vec_snoc (r : List Rat) (q : Rat) : vecD (r ++ [q]) = .tup (ratsD r ++ [.rat q]) := by unfold vecD ratsD; rw [List.map_append]; rfl
theorem lc_zeros {M : Mem} {Q : List D → Mem → Prop} {δ : DS0} : ∀ (l : List D) (acc : List D), acc.length + l.length ≤ sizeLine → Q (acc ++ List.replicate l.length (.rat 0)) M → dLcL always (gNm 3) dYes (dMk (dCons (dC (.int 0)) dNil)) δ l acc M Q
  | [], acc, _, q => ⟨trivial, by simpa using q⟩
  | x :: l, acc, hl, q => by
    rw [List.length_cons] at hl
    refine ⟨trivial, by omega, ?_⟩
    refine ite_t (B := dLcL always (gNm 3) dYes (dMk (dCons (dC (.int 0)) dNil)) δ l acc M Q) ?_
    show dLcL always (gNm 3) dYes (dMk (dCons (dC (.int 0)) dNil)) δ l (acc ++ [.rat ((0 : Int) : Rat)]) M Q
    refine lc_zeros l _ (by rw [List.length_append, List.length_singleton]; omega) ?_
    rw [List.append_assoc]
    exact q
theorem rd_widened (ds M Q E) (h : sp_widened ds M Q E) : w_widened { nx := fun _ M' => Q .non M', rt := Q } (startD 4 ds) M := by
  obtain ⟨m, rfl, hm, hr, hq⟩ := h
  refine ⟨_, rfl, ?_⟩
  refine lc_of (j := 2) vecD (fun r => vecD (r ++ [0])) (fun r => r.length ≤ 1000) (fun r M K hr q => ?_) m [] _ hr (by show 0 + _ ≤ _; exact sz16 (by omega)) ?_
  · refine ⟨_, rfl, by show 1 ≤ sizeLine; decide, _, _, rfl, rfl, ?_, ?_⟩
    · rw [ratsD_len]; exact sz16 (by show _ + 1 ≤ _; omega)
    · rw [vec_snoc] at q; exact q
  intro rp hp
  rw [List.nil_append]
  refine ⟨_, rfl, ⟨rp, _, rfl, mput_same⟩, _, rfl, _, m.length, rfl, by show _ = (m.map vecD).length; rw [List.length_map], ((m.length + 1 : Nat) : Int), rfl, ⟨by omega, by omega⟩, ?_⟩
  refine lc_zeros _ [] (by rw [rngD_len]; show 0 + _ ≤ _; exact sz16 (by omega)) ?_
  rw [List.nil_append, rngD_len, Int.toNat_natCast]
  refine .inl ⟨_, rfl, rp, _, _, rfl, rfl, mput_same, ?_, ?_⟩
  · rw [List.length_map]; exact sz16lt (by omega)
  refine ⟨_, rfl, .inr (.inr ⟨rp, _, rfl, mput_same, ?_⟩)⟩
  have e : matD (widR m) = .tup (m.map (fun r => vecD (r ++ [0])) ++ [.tup (List.replicate (m.length + 1) (.rat 0))]) := by
    unfold matD widR
    rw [List.map_append, List.map_map]
    show D.tup (_ ++ [vecD (List.replicate (m.length + 1) 0)]) = _
    unfold vecD ratsD
    rw [List.map_replicate]; rfl
  rw [← e]
  refine hq _ fun a o h => ?_
  have : a ≠ rp := fun z => by rw [z, hp] at h; cases h
  rw [mput_ne this, mput_ne this]; exact h
def sp_Net_add_point_5ee7 (AD : Ad) : DSp := fun ds M Q Ex => ∃ (p a1 a3 : Addr) (n : Nt) (x : Str) (q : Rat), ds = [.ref p, .str x, .rat q] ∧ NtAt AD p a1 a3 n M ∧ NtOk n ∧ SO x ∧ AfterN AD p a1 a3 (naddP n x q) M Q Ex
def w_Net_add_point_5ee7 (AD : Ad) (E : DXS) : DSt :=
  (dSeq (dIf (dTst (dOp rInM (dVar 1) (dFld (· = AD.nt) "points" (dVar 0))))
  (dRaiseF AD.dup "name" (dVar 1) E)
  dNext)
  (dSeq (dIf (dTst (dOp rEqA (dCB rLen (dCons (dFld (· = AD.nt) "points" (dVar 0)) dNil)) (dC (.int 12))))
  (dRaiseF AD.lim "what" (dC (.str "points")) E)
  dNext)
  (dSeq (dDrop (dApp (dFld (· = AD.nt) "points" (dVar 0)) (dCons (dVar 1) dNil)))
  (dSeq (dFldSet (· = AD.nt) "approximations" (dVar 0) (dOp rCatT (dFld (· = AD.nt) "approximations" (dVar 0)) (dCB rTup (dCons (dVar 2) dNil))))
  (dSeq (dFldSet (· = AD.nt) "normal" (dVar 0) (dCall sp_widened (dCons (dFld (· = AD.nt) "normal" (dVar 0)) dNil)))
  (dSeq (dFldSet (· = AD.nt) "inverse" (dVar 0) (dCall sp_widened (dCons (dFld (· = AD.nt) "inverse" (dVar 0)) dNil)))
  (dFldSet (· = AD.nt) "right" (dVar 0) (dOp rCatT (dFld (· = AD.nt) "right" (dVar 0)) (dCB rTup (dCons (dMk (dCons (dC (.int 0)) dNil)) dNil))))))))))
theorem rd_Net_add_point_5ee7 (AD : Ad) (ds M Q E) (h : sp_Net_add_point_5ee7 AD ds M Q E) : w_Net_add_point_5ee7 AD (fun C ns fs _ M' => E C ns fs M') { nx := fun _ M' => Q .non M', rt := Q } (startD 3 ds) M := by
  obtain ⟨p, a1, a3, n, x, q, rfl, B, ok, sx, hq⟩ := h
  have A := B.raw
  have few := ok.few
  refine ⟨_, rfl, _, rfl, _, _, _, _, .inr ⟨p, rfl, A.ins⟩, rfl, rfl, n.pts.map D.str, valM_at A.pts, sx, pl_strs ok.so, mS ⟨_, rfl, ?_⟩⟩
  unfold naddP at hq
  by_cases c : x ∈ n.pts
  · rw [if_pos c] at hq
    rw [decide_eq_true c]
    exact ite_t ⟨_, rfl, hq⟩
  rw [if_neg c] at hq
  rw [decide_eq_false c]
  refine ite_f ⟨_, rfl, _, _, _, _, .inr ⟨p, rfl, A.ins⟩, rfl, rfl, _, n.pts.length, rfl, ⟨_, A.pts, by rw [List.length_map]⟩, .inl ⟨rfl, rfl, eI ⟨_, rfl, ite_d (fun h => ?_) fun h => ?_⟩⟩⟩
  · rw [if_pos (by omega)] at hq
    exact hq
  rw [if_neg (by omega)] at hq
  have hq : ∀ M', NtAt AD p a1 a3 (n.addP x q) M' → KpN p a1 a3 M M' → Q .non M' := hq
  refine ⟨_, rfl, _, _, _, _, .inr ⟨p, rfl, A.ins⟩, rfl, rfl, ⟨_, _, rfl, A.pts⟩, _, rfl, a1, _, _, rfl, rfl, A.pts, ?_, ?_⟩
  · rw [List.length_map]; exact sz16lt (Nat.lt_of_le_of_lt few (by decide))
  have hM1 : ∀ o : MO, mput M a1 o p = some (.ins AD.nt ntF [.ref a1, vecD n.apx, .ref a3, matD n.nrm, matD n.inv, vecD n.rgt, .rat n.tot]) := fun o => by rw [mput_ne A.np1]; exact A.ins
  refine ⟨_, rfl, _, _, _, _, .inr ⟨p, rfl, hM1 _⟩, rfl, rfl, _, rfl, by show 1 ≤ sizeLine; decide, ratsD n.apx, [.rat q], rfl, rfl, ?_, ?_⟩
  · rw [ratsD_len, ok.len]; exact sz16 (by show _ + 1 ≤ _; omega)
  rw [← vec_snoc]
  refine ⟨_, rfl, p, AD.nt, _, _, _, _, rfl, hM1 _, rfl, by decide, rfl, .old 1 rfl (by decide), ?_⟩
  have mtl : ∀ {m : List (List Rat)}, Mt n.w n.w m → m.length ≤ 1000 ∧ ∀ r, r ∈ m → r.length ≤ 1000 := fun hm => ⟨by rw [hm.len]; show n.pts.length ≤ _; omega, fun r hr => by rw [hm.wid r hr]; show n.pts.length ≤ _; omega⟩
  have n13 := A.ne
  have s1 : ∀ (xs : List D) (o1 : MO), mput (mput M a1 o1) p (.ins AD.nt ntF xs) p = some (.ins AD.nt ntF xs) := fun _ _ => mput_same
  refine ⟨_, rfl, _, _, _, _, .inr ⟨p, rfl, mput_same⟩, rfl, rfl, n.nrm, rfl, (mtl (NtOk.nrm_mt n)).1, (mtl (NtOk.nrm_mt n)).2, fun M2 k2 => ?_⟩
  have e2 := k2 p _ mput_same
  refine ⟨_, rfl, p, AD.nt, _, _, _, _, rfl, e2, rfl, by decide, rfl, .old 3 rfl (by decide), ?_⟩
  refine ⟨_, rfl, _, _, _, _, .inr ⟨p, rfl, mput_same⟩, rfl, rfl, n.inv, rfl, (mtl (NtOk.inv_mt n)).1, (mtl (NtOk.inv_mt n)).2, fun M3 k3 => ?_⟩
  have e3 := k3 p _ mput_same
  refine ⟨_, rfl, p, AD.nt, _, _, _, _, rfl, e3, rfl, by decide, rfl, .old 4 rfl (by decide), ?_⟩
  refine ⟨_, rfl, _, _, _, _, .inr ⟨p, rfl, mput_same⟩, rfl, rfl, by show 1 ≤ sizeLine; decide, ratsD n.rgt, [.rat 0], rfl, rfl, ?_, ?_⟩
  · rw [ratsD_len, show n.rgt.length = n.pts.length from rgt_len ..]; exact sz16 (by show _ + 1 ≤ _; omega)
  rw [← vec_snoc]
  refine ⟨_, rfl, p, AD.nt, _, _, _, _, rfl, mput_same, rfl, by decide, rfl, .old 5 rfl (by decide), ?_⟩
  have keep : ∀ y o, y ≠ p → mput M a1 (.lst (n.pts.map D.str ++ [.str x])) y = some o → ∀ o1 o2 : MO, mput (mput M3 p o1) p o2 y = some o := fun y o hy e o1 o2 => by
    rw [mput_ne hy, mput_ne hy]
    refine k3 y _ ?_
    rw [mput_ne hy]
    refine k2 y _ ?_
    rw [mput_ne hy]; exact e
  refine hq _ ⟨?_, ?_, ?_, A.ne⟩ ?_
  · rw [mput_same, ok.nrm_wid c, ok.inv_wid c, ok.rgt_wid c, ok.tot_wid c]; rfl
  · refine keep a1 _ A.np1.symm ?_ _ _
    rw [mput_same]
    show _ = some (MO.lst ((n.pts ++ [x]).map D.str))
    rw [List.map_append]; rfl
  · refine keep a3 _ A.np3.symm ?_ _ _
    rw [mput_ne n13.symm]; exact A.rds
  · intro y o hy e
    refine keep y o hy.1 ?_ _ _
    rw [mput_ne hy.2.1]; exact e
def sp_Net___init__ (AD : Ad) : DSp := fun ds M Q _ => ∃ (p : Addr), ds = [.ref p] ∧ M p = some (.ins AD.nt [] []) ∧ ∀ a1 a3 M', NtAt AD p a1 a3 ⟨[], [], []⟩ M' → (∀ a o, a ≠ p → M a = some o → M' a = some o) → M a1 = none → M a3 = none → Q .non M'
def w_Net___init__ (AD : Ad) : DSt :=
  (dSeq (dFldSet (· = AD.nt) "points" (dVar 0) (dCB rLstR dNil))
  (dSeq (dFldSet (· = AD.nt) "approximations" (dVar 0) (dCB rTup dNil))
  (dSeq (dFldSet (· = AD.nt) "readings" (dVar 0) (dCB rLstR dNil))
  (dSeq (dFldSet (· = AD.nt) "normal" (dVar 0) (dCB rTup dNil))
  (dSeq (dFldSet (· = AD.nt) "inverse" (dVar 0) (dCB rTup dNil))
  (dSeq (dFldSet (· = AD.nt) "right" (dVar 0) (dCB rTup dNil))
  (dFldSet (· = AD.nt) "total" (dVar 0) (dMk (dCons (dC (.int 0)) dNil)))))))))
theorem rd_Net___init__ (AD : Ad) (ds M Q E) (h : sp_Net___init__ AD ds M Q E) : w_Net___init__ AD { nx := fun _ M' => Q .non M', rt := Q } (startD 1 ds) M := by
  obtain ⟨p, rfl, hM, hq⟩ := h
  have l0 : 0 ≤ sizeLine := by decide
  refine ⟨l0, fun a1 h1 => ⟨_, rfl, p, AD.nt, [], [], _, _, rfl, ?_, rfl, by decide, rfl, .new (by simp), ?_⟩⟩
  · rw [mput_ne (fun e : p = a1 => by rw [e, h1] at hM; cases hM)]; exact hM
  have n1 : p ≠ a1 := fun e => by rw [e, h1] at hM; cases hM
  refine ⟨l0, _, rfl, p, AD.nt, ["points"], [.ref a1], _, _, rfl, mput_same, rfl, by decide, rfl, .new (by decide), ?_⟩
  refine ⟨l0, fun a3 h3 => ⟨_, rfl, p, AD.nt, ["points", "approximations"], [.ref a1, .tup []], _, _, rfl, ?_, rfl, by decide, rfl, .new (by decide), ?_⟩⟩
  · rw [mput_ne (fun e : p = a3 => by rw [← e, mput_same] at h3; cases h3), mput_same]; rfl
  have n3 : p ≠ a3 := fun e => by rw [← e, mput_same] at h3; cases h3
  rw [mput_ne n3.symm, mput_ne n3.symm] at h3
  have n31 : a3 ≠ a1 := fun e => by rw [e, mput_same] at h3; cases h3
  rw [mput_ne n31] at h3
  refine ⟨l0, _, rfl, p, AD.nt, ["points", "approximations", "readings"], [.ref a1, .tup [], .ref a3], _, _, rfl, mput_same, rfl, by decide, rfl, .new (by decide), ?_⟩
  refine ⟨l0, _, rfl, p, AD.nt, ["points", "approximations", "readings", "normal"], [.ref a1, .tup [], .ref a3, .tup []], _, _, rfl, mput_same, rfl, by decide, rfl, .new (by decide), ?_⟩
  refine ⟨l0, _, rfl, p, AD.nt, ["points", "approximations", "readings", "normal", "inverse"], [.ref a1, .tup [], .ref a3, .tup [], .tup []], _, _, rfl, mput_same, rfl, by decide, rfl, .new (by decide), ?_⟩
  refine ⟨_, rfl, p, AD.nt, ["points", "approximations", "readings", "normal", "inverse", "right"], [.ref a1, .tup [], .ref a3, .tup [], .tup [], .tup []], _, _, rfl, mput_same, rfl, by decide, rfl, .new (by decide), ?_⟩
  refine hq a1 a3 _ ⟨?_, ?_, ?_, n31.symm⟩ (fun a o ha e => ?_) h1 h3
  · rw [mput_same]; rfl
  · simp only [mput_ne n1.symm, mput_ne n31.symm, mput_same]; rfl
  · simp only [mput_ne n3.symm, mput_same]; rfl
  · have e1 : a ≠ a1 := fun z => by rw [z, h1] at e; cases e
    have e3 : a ≠ a3 := fun z => by rw [z, h3] at e; cases e
    simp only [mput_ne ha, mput_ne e3, mput_ne e1]; exact e
theorem mkNet {AD : Ad} {M : Mem} {δ : DS0} {Q : DK} (h : ∀ p a1 a3 M', NtAt AD p a1 a3 ⟨[], [], []⟩ M' → KpA M M' → M p = none → M a1 = none → M a3 = none → Q (.ref p) M') : dMkR AD.nt (sp_Net___init__ AD) dNil δ M Q := fun p hp => ⟨p, rfl, mput_same, fun a1 a3 M2 B2 kp2 n1 n3 => ⟨rfl, by
  have kA2 : KpA M M2 := fun a o e => by
    have : a ≠ p := fun z => by rw [z, hp] at e; cases e
    exact kp2 a o this (by rw [mput_ne this]; exact e)
  have no : ∀ c, mput M p (.ins AD.nt [] []) c = none → M c = none := fun c hc => by
    have : c ≠ p := fun z => by rw [z, mput_same] at hc; cases hc
    rw [mput_ne this] at hc; exact hc
  exact h p a1 a3 M2 B2 kA2 hp (no a1 n1) (no a3 n3)⟩⟩
theorem mkNetS {AD : Ad} {M : Mem} {δ : DS0} {i : Nat} {R : DSt} {De : DEnds} (h : ∀ p a1 a3 M', NtAt AD p a1 a3 ⟨[], [], []⟩ M' → KpA M M' → M p = none → M a1 = none → M a3 = none → R De (δ.set i (some (.ref p))) M') : (dSeq (dSet i (dMkR AD.nt (sp_Net___init__ AD) dNil)) R) De δ M := mkNet (AD := AD) (δ := δ) (Q := fun d M1 => R De (δ.set i (some d)) M1) h
def sp_law_same_e380 : DSp := fun ds M Q _ => ∃ p q : Rat, ds = [.rat p, .rat q] ∧ Q (.bl (decide (p = q))) M
def w_law_same_e380 : DSt :=
  (dSeq (dIf (dOr (dNot (dTru (dIsR (dVar 0)))) (dNot (dTru (dIsR (dVar 1)))))
  (dRet (dC (.bl false)))
  dNext)
  (dRet (dAndV (dOp rEqA (dTop (dVar 0)) (dTop (dVar 1))) (dOp rEqA (dBot (dVar 0)) (dBot (dVar 1))))))
theorem rd_law_same_e380 (ds M Q E) (h : sp_law_same_e380 ds M Q E) : w_law_same_e380 { nx := fun _ M' => Q .non M', rt := Q } (startD 2 ds) M := by
  obtain ⟨p, q, rfl, hq⟩ := h
  refine ⟨_, rfl, true, rfl, ite_f ⟨_, rfl, true, rfl, ite_f ?_⟩⟩
  have one : ∀ (i j : Int) (t : Bool), (t = true ↔ D.int i = D.int j) → t = decide (i = j) := fun i j t h => by
    by_cases e : i = j
    · rw [decide_eq_true e]; exact h.mpr (by rw [e])
    · rw [decide_eq_false e]
      cases t with
      | true => have := h.mp rfl; injection this with this; exact absurd this e
      | false => rfl
  refine ⟨_, rfl, p, rfl, _, rfl, q, rfl, .inl ⟨rfl, rfl, fun t ht => ⟨t, rfl, ?_⟩⟩⟩
  have e1 := one _ _ t ht
  subst e1
  have eq1 := q_eq p q
  refine ite_b (fun c => ⟨_, rfl, p, rfl, _, rfl, q, rfl, .inl ⟨rfl, rfl, fun t2 ht2 => ?_⟩⟩) (fun c => ?_)
  · have e2 := one _ _ t2 ht2
    subst e2
    have c1 : p.num = q.num := of_decide_eq_true c
    have : decide ((p.den : Int) = q.den) = decide (p = q) := decide_eq_decide.mpr ⟨fun h => eq1.mpr ⟨c1, h⟩, fun h => (eq1.mp h).2⟩
    rw [this]; exact hq
  · have c1 : ¬ p.num = q.num := of_decide_eq_false c
    have : decide (p = q) = false := decide_eq_false fun h => c1 (eq1.mp h).1
    rw [this] at hq; exact hq
/-- a loop that refuses at the first place that differs -/
theorem loop_same {i N : Nat} {te : DE} {De : DEnds} {M : Mem} {δ : DS0} (P : Nat → Bool) (h : ∀ (k : Nat) (K : DK), k < N → K (.bl (P k)) M → te (δ.set i (some (.int (k : Int)))) M K) :
    ∀ (n a : Nat) (x : Option D), a + n ≤ N → ((∀ k, a ≤ k → k < a + n → P k = true) → ∀ x, De.nx (δ.set i x) M) → (∀ k, a ≤ k → k < a + n → P k = false → De.rt (.bl false) M) →
      dLoop always (gNm i) (dIf (dNot (dTru te)) (dRet (dC (.bl false))) dNext) ((List.range' a n).map fun (k : Nat) => D.int (k : Int)) De (δ.set i x) M
  | 0, a, x, _, h1, _ => ⟨trivial, h1 (fun k h2 h3 => by omega) x⟩
  | n + 1, a, x, hN, h1, h2 => by
    refine ⟨trivial, ?_⟩
    dsimp only [gNm]
    rw [List.set_set]
    refine h a _ (by omega) ⟨P a, rfl, ?_⟩
    cases hp : P a with
    | false => exact ite_t (h2 a (Nat.le_refl _) (by omega) hp)
    | true =>
      refine ite_f (loop_same P h n (a + 1) _ (by omega) (fun hh => h1 fun k h3 h4 => ?_) fun k h3 h4 => h2 k (by omega) (by omega))
      by_cases e : k = a
      · rw [e]; exact hp
      · exact hh k (by omega) (by omega)
theorem set_self {δ : DS0} {i : Nat} {x : Option D} (h : δ[i]? = some x) : δ.set i x = δ := by
  refine List.ext_getElem? fun j => ?_
  have hl : i < δ.length := (List.getElem?_eq_some_iff.mp h).1
  by_cases n : j = i
  · subst n; rw [List.getElem?_set_self hl, h]
  · rw [List.getElem?_set_ne (Ne.symm n)]
/-- two lists of one length, by their places -/
theorem eq_places {α : Type} [DecidableEq α] {g : α → D} {xs ys : List α} (hl : xs.length = ys.length) : (∀ k, k < ys.length → xs[k]? = ys[k]?) → xs = ys := fun h => List.ext_getElem? fun i => by
  by_cases hi : i < ys.length
  · exact h i hi
  · rw [List.getElem?_eq_none (by omega), List.getElem?_eq_none (by omega)]
def sp_law_same_vectors : DSp := fun ds M Q _ => ∃ xs ys : List Rat, ds = [vecD xs, vecD ys] ∧ ys.length ≤ 1000000 ∧ Q (.bl (decide (xs = ys))) M
def w_law_same_vectors : DSt :=
  (dSeq (dIf (dOr (dNot (dTru (dCB rIsi (dCons (dVar 0) (dCons (dC (.ty "tuple")) dNil))))) (dTst (dOp rNeA (dCB rLen (dCons (dVar 0) dNil)) (dCB rLen (dCons (dVar 1) dNil)))))
  (dRet (dC (.bl false)))
  dNext)
  (dSeq (dFor (dRng1 (dCons (dCB rLen (dCons (dVar 1) dNil)) dNil)) (gNm 2)
  (dIf (dNot (dTru (dCall sp_law_same_e380 (dCons (dOp rIxD (dVar 0) (dVar 2)) (dCons (dOp rIxD (dVar 1) (dVar 2)) dNil)))))
  (dRet (dC (.bl false)))
  dNext))
  (dRet (dC (.bl true)))))
theorem rd_law_same_vectors (ds M Q E) (h : sp_law_same_vectors ds M Q E) : w_law_same_vectors { nx := fun _ M' => Q .non M', rt := Q } (startD 3 ds) M := by
  obtain ⟨xs, ys, rfl, hl2, hq⟩ := h
  refine ⟨_, rfl, _, "tuple", "tuple", true, rfl, rfl, by decide, true, rfl, ite_f ?_⟩
  refine ⟨_, rfl, vecD xs, xs.length, rfl, (ratsD_len xs).symm, _, rfl, vecD ys, ys.length, rfl, (ratsD_len ys).symm, .inl ⟨rfl, rfl, fun t ht => ⟨t, rfl, ite_b (fun h1 => ?_) (fun h1 => ?_)⟩⟩⟩
  · have : xs ≠ ys := fun e => ht.mp h1 (by rw [e])
    rw [decide_eq_false this] at hq
    exact hq
  · have hl : xs.length = ys.length := by
      by_cases e : xs.length = ys.length
      · exact e
      · have := ht.mpr fun z => e (by injection z with z; omega)
        rw [this] at h1; cases h1
    refine ⟨_, rfl, vecD ys, ys.length, rfl, (ratsD_len ys).symm, _, rfl, by omega, ?_⟩
    rw [rngD_eq]
    refine loop_same (i := 2) (N := ys.length) (δ := [some (vecD xs), some (vecD ys), none]) (fun k => decide (xs[k]? = ys[k]?)) ?_ ys.length 0 none (by omega) (fun h x => ?_) (fun k _ hk h => ?_)
    · intro k K hk kk
      obtain ⟨p, ep, _, ap⟩ := ratsD_at (xs := xs) (k := (k : Int)) (by omega) (by omega)
      obtain ⟨q, eq, _, aq⟩ := ratsD_at (xs := ys) (k := (k : Int)) (by omega) (by omega)
      rw [show (k : Int).toNat = k by omega] at ep eq
      have e : decide (xs[k]? = ys[k]?) = decide (p = q) := by rw [ep, eq]; exact decide_eq_decide.mpr (by simp)
      rw [e] at kk
      exact ⟨_, rfl, _, rfl, k, rfl, _, ap, _, rfl, _, rfl, k, rfl, _, aq, p, q, rfl, kk⟩
    · have : xs = ys := eq_places (g := D.rat) hl fun k hk => of_decide_eq_true (h k (Nat.zero_le _) (by rw [Nat.zero_add]; exact hk))
      rw [decide_eq_true this] at hq
      exact hq
    · have : xs ≠ ys := fun e => of_decide_eq_false h (by rw [e])
      rw [decide_eq_false this] at hq
      exact hq
def sp_law_draw_82fd : DSp := fun ds M Q _ => ∃ (st : Addr) (b : Nat) (m : Int), ds = [.ref st, .int m] ∧ Ls st b M ∧ b ≤ 1000000000 ∧ 0 < m ∧ ∀ (n : Int) M', 0 ≤ n → n < m → Ls st (b + 1) M' → Off st M M' → Q (.int n) M'
def w_law_draw_82fd : DSt :=
  (dSeq (dSet 2 (dOp rIxD (dVar 0) (dC (.int 1))))
  (dSeq (dAsg (dOp rAddP (dVar 2) (dC (.int 1))) (gSb (dVar 0) (dC (.int 1))))
  (dSeq (dSet 3 (dOp rIxD (dVar 0) (dC (.int 0))))
  (dSeq (dIf (dTst (dOp rLt (dVar 2) (dCB rLen (dCons (dVar 3) dNil))))
  (dRet (dOp rMod (dCB rInt (dCons (dOp rIxD (dVar 3) (dVar 2)) dNil)) (dVar 1)))
  dNext)
  (dSeq (dAsg (dOp rMod (dCB rInt (dCons (dOp rAddP (dOp rAddP (dOp rMulI (dOp rIxD (dVar 0) (dC (.int 2))) (dC (.int 48271))) (dOp rMulI (dVar 2) (dC (.int 69621)))) (dC (.int 11))) dNil)) (dC (.int 2147483647))) (gSb (dVar 0) (dC (.int 2))))
  (dRet (dOp rMod (dCB rInt (dCons (dOp rFdiv (dOp rIxD (dVar 0) (dC (.int 2))) (dC (.int 1009))) dNil)) (dVar 1))))))))
theorem rd_law_draw_82fd (ds M Q E) (h : sp_law_draw_82fd ds M Q E) : w_law_draw_82fd { nx := fun _ M' => Q .non M', rt := Q } (startD 4 ds) M := by
  obtain ⟨st, b, m, rfl, ⟨ts, k, s, ht, h0, h1, hs, e⟩, hb, hm, hq⟩ := h
  have hlen : ((dInts ts).length : Int) = ts.length := by unfold dInts; rw [List.length_map]
  refine ⟨_, rfl, 1, rfl, _, _, e, rfl, ?_⟩
  refine ⟨_, rfl, _, rfl, st, _, 1, 1, rfl, rfl, e, rfl, ?_⟩
  rw [show ([D.lst (dInts ts), D.int k, D.int s].set 1 (D.int (k + 1))) = [.lst (dInts ts), .int (k + 1), .int s] from rfl]
  refine ⟨_, rfl, 0, rfl, _, _, mput_same, rfl, ?_⟩
  refine ⟨_, rfl, _, rfl, _, _, rfl, rfl, trivial, _, rfl, ite_d (fun hlt => ?_) (fun hge => ?_)⟩
  · have hk : k.toNat < ts.length := by rw [hlen] at hlt; omega
    have ea : atI (dInts ts) k = some (.int ts[k.toNat]) := atI_nn h0 (by unfold dInts; rw [List.getElem?_map, List.getElem?_eq_getElem hk]; rfl)
    refine ⟨_, rfl, _, rfl, k, rfl, _, ea, .inl ⟨_, rfl, _, rfl, by omega, ?_⟩⟩
    dsimp only
    rw [fmod_pos hm]
    exact hq _ _ (Int.emod_nonneg _ (by omega)) (Int.emod_lt_of_pos _ hm) ⟨ts, k + 1, s, ht, by omega, by omega, hs, mput_same⟩ fun a ha => mput_ne ha
  · refine ⟨_, rfl, 2, rfl, _, _, mput_same, rfl, mulR (by decide) (by decide), _, rfl, mulR (by decide) (by decide), .inl ⟨_, rfl, (by decide : (2147483647 : Int) ≠ 0), _, rfl, st, _, 2, 2, rfl, rfl, mput_same, rfl, ?_⟩⟩
    dsimp only
    rw [fmod_pos (show (0 : Int) < 2147483647 by decide), mput_mput]
    have hs2 : 0 ≤ (s * 48271 + k * 69621 + 11) % 2147483647 ∧ (s * 48271 + k * 69621 + 11) % 2147483647 < 2147483648 := by omega
    generalize (s * 48271 + k * 69621 + 11) % 2147483647 = s2 at hs2
    rw [show ([D.lst (dInts ts), D.int (k + 1), D.int s].set 2 (D.int s2)) = [.lst (dInts ts), .int (k + 1), .int s2] from rfl]
    refine ⟨_, rfl, 2, rfl, _, _, mput_same, rfl, cfd_small (by decide) (by decide), .inl ⟨_, rfl, _, rfl, by omega, ?_⟩⟩
    dsimp only
    rw [fmod_pos hm]
    exact hq _ _ (Int.emod_nonneg _ (by omega)) (Int.emod_lt_of_pos _ hm) ⟨ts, k + 1, s2, ht, by omega, by omega, hs2, mput_same⟩ fun a ha => mput_ne ha
theorem draw_at {i : Nat} {δ : DS0} {st : Addr} {b : Nat} {m : Int} {M : Mem} {Q : DK} (hi : δ[i]? = some (some (.ref st))) (hL : Ls st b M) (hm : 0 < m) (hb : b ≤ 1000000000) (k : ∀ (n : Int) M', 0 ≤ n → n < m → Ls st (b + 1) M' → Off st M M' → Q (.int n) M') : dCall sp_law_draw_82fd (dCons (dVar i) (dCons (dC (.int m)) dNil)) δ M Q := ⟨_, hi, st, b, m, rfl, hL, hb, hm, k⟩
def sp_law_weight_w : DSp := fun ds M Q _ => ∃ (st : Addr) (b : Nat), ds = [.ref st] ∧ Ls st b M ∧ b ≤ 10000000 ∧ ∀ (q : Rat) M', Bt 10 q → CD 28 2048 q → 0 < q → Ls st (b + 2) M' → Off st M M' → Q (.rat q) M'
def w_law_weight_w : DSt :=
  (dRet (dOp rIxD (dCB rTup (dCons (dMk (dCons (dC (.int 1)) dNil)) (dCons (dMk (dCons (dC (.int 2)) dNil)) (dCons (dMk (dCons (dC (.int 1)) (dCons (dC (.int 2)) dNil))) (dCons (dMk (dCons (dC (.int 3)) (dCons (dC (.int 4)) dNil))) (dCons (dMk (dCons (dOp rAdd (dC (.int 1)) (dCall sp_law_draw_82fd (dCons (dVar 0) (dCons (dC (.int 500)) dNil)))) (dCons (dC (.int 7)) dNil))) dNil)))))) (dCall sp_law_draw_82fd (dCons (dVar 0) (dCons (dC (.int 5)) dNil)))))
theorem rd_law_weight_w (ds M Q E) (h : sp_law_weight_w ds M Q E) : w_law_weight_w { nx := fun _ M' => Q .non M', rt := Q } (startD 1 ds) M := by
  obtain ⟨st, b, rfl, hL, hb, hq⟩ := h
  have big : ∀ z : Int, z.natAbs ≤ 1000 → szB z := fun z h => trivial
  refine ⟨by decide, big 2 (by decide), by decide, big 4 (by decide), ?_⟩
  refine draw_at rfl hL (by decide) (by omega) fun x M1 hx0 hx1 hL1 hO1 => ⟨by decide, big 7 (by decide), by show 5 ≤ sizeLine; decide, ?_⟩
  refine draw_at rfl hL1 (by decide) (by omega) fun k M2 hk0 hk1 hL2 hO2 => ⟨k, rfl, ?_⟩
  have pos : ∀ (a : Int) (c : Nat), 0 < a → 0 < c → 0 < Rat.divInt a c := fun a c ha hc => by
    rw [Rat.divInt_eq_div, Rat.div_def]
    exact Rat.mul_pos (Rat.intCast_pos.mpr ha) (Rat.inv_pos.mpr (Rat.intCast_pos.mpr (by omega)))
  have go : ∀ (a : Int) (c k : Nat), 0 < a → 0 < c → c * k = 28 → a.natAbs ≤ 1000 → c ≤ 1000 → a.natAbs * k ≤ 2048 → Q (.rat (Rat.divInt a c)) M2 := fun a c k ha hc hk h1 h2 h3 => hq _ _ (bt_div (Nat.le_trans h1 (by decide)) (by rw [Int.natAbs_natCast]; exact Nat.le_trans h2 (by decide))) (by
    have := (cd_div (N := a.natAbs) hc (Nat.le_refl _)).mulD k
    rw [hk] at this; exact this.mono h3) (pos a c ha hc) (hL2.mono (by omega)) (hO1.trans hO2)
  obtain rfl | rfl | rfl | rfl | rfl : k = 0 ∨ k = 1 ∨ k = 2 ∨ k = 3 ∨ k = 4 := by omega
  · exact ⟨.rat ((1 : Int) : Rat), rfl, by rw [← q_int]; exact go 1 1 28 (by decide) (by decide) (by decide) (by decide) (by decide) (by decide)⟩
  · exact ⟨.rat ((2 : Int) : Rat), rfl, by rw [← q_int]; exact go 2 1 28 (by decide) (by decide) (by decide) (by decide) (by decide) (by decide)⟩
  · exact ⟨.rat (Rat.divInt 1 2), rfl, go 1 2 14 (by decide) (by decide) (by decide) (by decide) (by decide) (by decide)⟩
  · exact ⟨.rat (Rat.divInt 3 4), rfl, go 3 4 7 (by decide) (by decide) (by decide) (by decide) (by decide) (by decide)⟩
  · exact ⟨.rat (Rat.divInt (1 + x) 7), rfl, go (1 + x) 7 4 (by omega) (by decide) (by decide) (by omega) (by decide) (by omega)⟩
def sp_law_whole : DSp := fun ds M Q _ => ∃ (st : Addr) (b : Nat), ds = [.ref st] ∧ Ls st b M ∧ b ≤ 100000000 ∧ ∀ (n : Int) M', n.natAbs ≤ 524288 → Ls st (b + 3) M' → Off st M M' → Q (.int n) M'
def w_law_whole : DSt :=
  (dSeq (dSet 1 (dCall sp_law_draw_82fd (dCons (dVar 0) (dCons (dC (.int 6)) dNil))))
  (dSeq (dIf (dTst (dOp rLt (dVar 1) (dC (.int 3))))
  (dRet (dOp rSubI (dCall sp_law_draw_82fd (dCons (dVar 0) (dCons (dC (.int 7)) dNil))) (dC (.int 3))))
  dNext)
  (dSeq (dIf (dTst (dOp rEqP (dVar 1) (dC (.int 3))))
  (dRet (dC (.int 0)))
  dNext)
  (dSeq (dIf (dTst (dOp rEqP (dVar 1) (dC (.int 4))))
  (dRet (dOp rSubI (dOp rAddP (dOp rMulI (dCall sp_law_draw_82fd (dCons (dVar 0) (dCons (dC (.int 1000)) dNil))) (dC (.int 1000))) (dCall sp_law_draw_82fd (dCons (dVar 0) (dCons (dC (.int 1000)) dNil)))) (dC (.int 500000))))
  dNext)
  (dRet (dOp rSubI (dCall sp_law_draw_82fd (dCons (dVar 0) (dCons (dC (.int 199)) dNil))) (dC (.int 99))))))))
theorem rd_law_whole (ds M Q E) (h : sp_law_whole ds M Q E) : w_law_whole { nx := fun _ M' => Q .non M', rt := Q } (startD 2 ds) M := by
  obtain ⟨st, b, rfl, hL, hb, hq⟩ := h
  refine draw_at rfl hL (by decide) (by omega) fun n M1 h0 h1 hL1 hO1 => ⟨_, rfl, trivial, _, rfl, ite_d (fun c1 => ?_) (fun c1 => ?_)⟩
  · exact draw_at rfl hL1 (by decide) (by omega) fun x M2 hx0 hx1 hL2 hO2 => ⟨trivial, hq _ _ (by omega) (hL2.mono (by omega)) (hO1.trans hO2)⟩
  · refine ⟨_, rfl, .inl ⟨rfl, rfl, fun t ht => ⟨t, rfl, ite_b (fun c2 => hq _ _ (by decide) (hL1.mono (by omega)) hO1) (fun c2 => ?_)⟩⟩⟩
    refine ⟨_, rfl, .inl ⟨rfl, rfl, fun t2 ht2 => ⟨t2, rfl, ite_b (fun c3 => ?_) (fun c3 => ?_)⟩⟩⟩
    · exact draw_at rfl hL1 (by decide) (by omega) fun x M2 hx0 hx1 hL2 hO2 => ⟨mulR (by decide) (by decide), draw_at rfl hL2 (by decide) (by omega) fun y M3 hy0 hy1 hL3 hO3 => ⟨trivial, hq _ _ (by omega) (hL3.mono (by omega)) ((hO1.trans hO2).trans hO3)⟩⟩
    · exact draw_at rfl hL1 (by decide) (by omega) fun x M2 hx0 hx1 hL2 hO2 => ⟨trivial, hq _ _ (by omega) (hL2.mono (by omega)) (hO1.trans hO2)⟩
/-- a drawn fraction -/
def Rt (q : Rat) : Prop := ∃ (a : Int) (c : Nat), q = Rat.divInt a c ∧ a.natAbs ≤ 524288 ∧ 1 ≤ c ∧ c ≤ 12
theorem Rt.bt {q : Rat} (h : Rt q) : Bt 19 q := by
  obtain ⟨a, c, rfl, h1, h2, h3⟩ := h
  exact bt_div (Nat.le_trans h1 (by decide)) (by rw [Int.natAbs_natCast]; exact Nat.le_trans h3 (by decide))
theorem dvd27720 {c : Nat} (h1 : 1 ≤ c) (h2 : c ≤ 12) : c ∣ 27720 := by
  have : ∀ c : Fin 13, c.val ≠ 0 → c.val ∣ 27720 := by decide
  exact this ⟨c, by omega⟩ (by show c ≠ 0; omega)
theorem Rt.cd {q : Rat} {D : Nat} (h : Rt q) (hd : 27720 ∣ D) : CD D (524288 * D) q := by
  obtain ⟨a, c, rfl, h1, h2, h3⟩ := h
  obtain ⟨e, rfl⟩ := Nat.dvd_trans (dvd27720 h2 h3) hd
  refine ((cd_div (by omega) h1).mulD e).mono ?_
  exact Nat.mul_le_mul_left _ (Nat.le_mul_of_pos_left _ (by omega))
def sp_law_ratio_0f72 : DSp := fun ds M Q _ => ∃ (st : Addr) (b : Nat), ds = [.ref st] ∧ Ls st b M ∧ b ≤ 10000000 ∧ ∀ (q : Rat) M', Rt q → Ls st (b + 5) M' → Off st M M' → Q (.rat q) M'
def w_law_ratio_0f72 : DSt :=
  (dSeq (dSet 1 (dCall sp_law_whole (dCons (dVar 0) dNil)))
  (dSeq (dIf (dTst (dOp rEqA (dCall sp_law_draw_82fd (dCons (dVar 0) (dCons (dC (.int 2)) dNil))) (dC (.int 0))))
  (dRet (dMk (dCons (dVar 1) dNil)))
  dNext)
  (dRet (dMk (dCons (dVar 1) (dCons (dOp rAdd (dC (.int 1)) (dCall sp_law_draw_82fd (dCons (dVar 0) (dCons (dC (.int 12)) dNil)))) dNil))))))
theorem rd_law_ratio_0f72 (ds M Q E) (h : sp_law_ratio_0f72 ds M Q E) : w_law_ratio_0f72 { nx := fun _ M' => Q .non M', rt := Q } (startD 2 ds) M := by
  obtain ⟨st, b, rfl, hL, hb, hq⟩ := h
  refine ⟨_, rfl, st, b, rfl, hL, by omega, fun a M1 ha hL1 hO1 => ?_⟩
  refine draw_at rfl hL1 (by decide) (by omega) fun x M2 hx0 hx1 hL2 hO2 => .inl ⟨rfl, rfl, fun t ht => ⟨t, rfl, ite_b (fun c1 => ⟨_, rfl, ?_⟩) (fun c1 => ⟨_, rfl, ?_⟩)⟩⟩
  · show Q (.rat (a : Rat)) M2
    exact hq _ _ ⟨a, 1, (q_int a).symm, ha, by decide, by decide⟩ (hL2.mono (by omega)) (hO1.trans hO2)
  · refine draw_at rfl hL2 (by decide) (by omega) fun y M3 hy0 hy1 hL3 hO3 => ⟨by omega, ?_, ?_⟩
    · exact trivial
    · refine hq _ _ ⟨a, (1 + y).toNat, ?_, ha, by omega, by omega⟩ (hL3.mono (by omega)) ((hO1.trans hO2).trans hO3)
      rw [show ((1 + y).toNat : Int) = 1 + y by omega]
/-- a row of drawn fractions -/
theorem ratios_at {j s w : Nat} {δ : DS0} {st : Addr} {b : Nat} {M : Mem} {Q : List D → Mem → Prop} (h1 : ∀ x, (δ.set j (some x))[s]? = some (some (.ref st))) (hL : Ls st b M) (hb : b + 5 * w ≤ 10000000) (hw : w ≤ 100000)
    (hq : ∀ (xs : List Rat) M', xs.length = w → (∀ x, x ∈ xs → Rt x) → Ls st (b + 5 * w) M' → Off st M M' → Q (ratsD xs) M') : dLcL always (gNm j) dYes (dCall sp_law_ratio_0f72 (dCons (dVar s) dNil)) δ (rngD 0 (w : Int)) [] M Q := by
  have hlen : (rngD 0 (w : Int)).length = w := by rw [rngD_eq]; simp
  refine dLcL_ind (fun rest acc M1 => ∃ (zs : List Rat), acc = ratsD zs ∧ zs.length + rest.length = w ∧ (∀ x, x ∈ zs → Rt x) ∧ Ls st (b + 5 * zs.length) M1 ∧ Off st M M1) ?_ ?_ _ _ _ ⟨[], rfl, by rw [hlen]; exact Nat.zero_add _, fun z hz => (nomatch hz), hL, .refl⟩
  · rintro x xs acc M1 K hK ⟨zs, rfl, hz, hB, hL1, hO⟩
    rw [List.length_cons] at hz
    refine ⟨trivial, by rw [ratsD_len]; exact sz16lt (by omega), gyes ⟨_, h1 x, st, _, rfl, hL1, by omega, fun r M2 hr hL2 hO2 => ?_⟩⟩
    refine hK _ _ ⟨zs ++ [r], by unfold ratsD; rw [List.map_append]; rfl, by rw [List.length_append, List.length_singleton]; omega, ?_, ?_, hO.trans hO2⟩
    · intro z hz2
      rcases List.mem_append.mp hz2 with h | h
      · exact hB z h
      · rw [List.mem_singleton.mp h]; exact hr
    · rw [List.length_append, List.length_singleton]
      exact hL2.mono (by omega)
  · rintro acc M1 ⟨zs, rfl, hz, hB, hL1, hO⟩
    rw [List.length_nil] at hz
    exact ⟨trivial, hq zs _ (by omega) hB (hL1.mono (by omega)) hO⟩
theorem at_map {α : Type} (f : α → D) {xs : List α} {k : Int} (h0 : 0 ≤ k) (h1 : k < xs.length) : ∃ x, x ∈ xs ∧ atI (xs.map f) k = some (f x) := by
  have hk : k.toNat < xs.length := by omega
  exact ⟨xs[k.toNat], List.getElem_mem hk, atI_nn h0 (by rw [List.getElem?_map, List.getElem?_eq_getElem hk]; rfl)⟩
theorem KpX.off {st : Addr} {M M' : Mem} (h : Off st M M') : KpX st M M' := fun a o n e => (h a n).trans e
def TmOk (t : List (Str × Int)) : Prop := ∀ x, x ∈ t → SO x.1
theorem Lw.ne {st b M p} (h : Lw st b M) (hp : M p = none) : p ≠ st := fun e => by obtain ⟨_, _, _, _, _, e2⟩ := h; rw [← e, hp] at e2; cases e2
theorem Lw.at_ {st b M M'} (h : Lw st b M) (e : M' st = M st) : Lw st b M' := by obtain ⟨ts, k, t, h0, h1, e2⟩ := h; exact ⟨ts, k, t, h0, h1, e.trans e2⟩
theorem at0' {α : Type} {x : α} {xs : List α} : atI (x :: xs) 0 = some x := atI_nn (by decide) rfl
/-! nets that a law makes -/
def pnm (k : Nat) : Str := "p" ++ Str.ofString (toString (k : Int))
def rnm (k : Nat) : Str := "r" ++ Str.ofString (toString (k : Int))
def pnms (n : Nat) : List Str := (List.range' 0 n).map pnm
theorem pnm_so : ∀ k : Nat, k < 30 → SO (pnm k) := by decide +kernel
theorem rnm_so : ∀ k : Nat, k < 30 → SO (rnm k) := by decide +kernel
theorem pnm_len : ∀ k : Nat, k < 30 → (("p" : Str).length + (Str.ofString (toString (k : Int))).length) ≤ 1000 := by decide +kernel
theorem rnm_len : ∀ k : Nat, k < 30 → (("r" : Str).length + (Str.ofString (toString (k : Int))).length) ≤ 1000 := by decide +kernel
theorem rnm_l : ∀ k : Nat, k < 30 → (rnm k).length ≤ 1000 := by decide +kernel
theorem pnm_inj : ∀ i : Nat, i < 30 → ∀ j : Nat, j < 30 → pnm i = pnm j → i = j := by decide +kernel
theorem rnm_inj : ∀ i : Nat, i < 30 → ∀ j : Nat, j < 30 → rnm i = rnm j → i = j := by decide +kernel
theorem pnms_len (n : Nat) : (pnms n).length = n := by unfold pnms; rw [List.length_map, List.length_range']
theorem pnms_get {n i : Nat} (h : i < n) : (pnms n)[i]? = some (pnm i) := by
  unfold pnms
  rw [List.getElem?_map, List.getElem?_range' h]
  show some (pnm (0 + 1 * i)) = _
  rw [Nat.one_mul, Nat.zero_add]
theorem pnms_so {n : Nat} (h : n ≤ 30) : ∀ x, x ∈ pnms n → SO x := fun x hx => by
  obtain ⟨k, hk, rfl⟩ := List.mem_map.mp hx
  exact pnm_so k (by have := (List.mem_range'_1.mp hk).2; omega)
theorem pnms_nd {n : Nat} (h : n ≤ 30) : (pnms n).Nodup := nodup_map_of (fun a b ha hb e => pnm_inj a (by have := (List.mem_range'_1.mp ha).2; omega) b (by have := (List.mem_range'_1.mp hb).2; omega) e) (List.nodup_range' ..)
/-- terms that a law draws -/
structure TrmOk (ns : List Str) (t : List (Str × Int)) : Prop where
  ne : t ≠ []
  sub : ∀ x, x ∈ t → x.1 ∈ ns
  nd : (t.map Prod.fst).Nodup
  cf : ∀ x, x ∈ t → x.2.natAbs ≤ 9 ∧ x.2 ≠ 0
  few : t.length ≤ 4
theorem Rt.v {q : Rat} (h : Rt q) : VOk q := CD.mono (h.cd (D := 27720) ⟨1, rfl⟩) (by decide)
theorem WOk.of28 {q : Rat} (h0 : 0 < q) (h : CD 28 2048 q) : WOk q := ⟨h0, by
  have := h.mulD 28
  exact this.mono (by decide)⟩
structure NtLw (n : Nt) (most many : Nat) : Prop where
  ok : NtOk n
  w1 : 1 ≤ n.pts.length
  w2 : n.pts.length ≤ most
  pts : n.pts = pnms n.pts.length
  few : n.rds.length < many
  nm : n.rds.map Rdg.name = (List.range' 0 n.rds.length).map rnm
  tm : ∀ r, r ∈ n.rds → TrmOk n.pts r.terms
  ap : ∀ q, q ∈ n.apx → Rt q
  vl : ∀ r, r ∈ n.rds → Rt r.value
  wt : ∀ r, r ∈ n.rds → CD 28 2048 r.weight
theorem Ls.kp {st x : Addr} {b : Nat} {M M' : Mem} (h : Ls st b M) (k : KpX x M M') (n : st ≠ x) : Ls st b M' := by
  obtain ⟨ts, k1, s, t, h0, h1, h2, e⟩ := h
  exact ⟨ts, k1, s, t, h0, h1, h2, k _ _ n e⟩
theorem Ls.kpA {st : Addr} {b : Nat} {M M' : Mem} (h : Ls st b M) (k : KpA M M') : Ls st b M' := by
  obtain ⟨ts, k1, s, t, h0, h1, h2, e⟩ := h
  exact ⟨ts, k1, s, t, h0, h1, h2, k _ _ e⟩
theorem Ls.kpN {st p a1 a3 : Addr} {b : Nat} {M M' : Mem} (h : Ls st b M) (k : KpN p a1 a3 M M') (n : st ≠ p ∧ st ≠ a1 ∧ st ≠ a3) : Ls st b M' := by
  obtain ⟨ts, k1, s, t, h0, h1, h2, e⟩ := h
  exact ⟨ts, k1, s, t, h0, h1, h2, k _ _ n e⟩
theorem NtAt.kpX {AD p a1 a3 n M M' x} (h : NtAt AD p a1 a3 n M) (k : KpX x M M') (d : p ≠ x ∧ a1 ≠ x ∧ a3 ≠ x) : NtAt AD p a1 a3 n M' := ⟨k _ _ d.1 h.ins, k _ _ d.2.1 h.pts, k _ _ d.2.2 h.rds, h.ne⟩
theorem KpX.ofA {x : Addr} {M M' : Mem} (h : KpA M M') : KpX x M M' := fun a o _ e => h a o e
theorem Ls.some_ {st b M} (h : Ls st b M) : M st ≠ none := fun e => by obtain ⟨_, _, _, _, _, _, _, e2⟩ := h; rw [e] at e2; cases e2
def sp_law_terms_6d2d : DSp := fun ds M Q _ => ∃ (st : Addr) (b : Nat) (ns : List Str), ds = [.ref st, .lst (ns.map D.str)] ∧ Ls st b M ∧ b ≤ 1000000 ∧ ns ≠ [] ∧ ns.Nodup ∧ ns.length ≤ 100 ∧ ∀ t M', TrmOk ns t → Ls st (b + 2 * ns.length) M' → KpX st M M' → Q (trmsD t) M'
def w_law_terms_6d2d : DSt :=
  (dSeq (dSet 2 (dCB rLstR dNil))
  (dSeq (dFor (dIt (dVar 1)) (gNm 3)
  (dIf (dAnd (dTst (dOp rGtA (dCall sp_law_draw_82fd (dCons (dVar 0) (dCons (dC (.int 3)) dNil))) (dC (.int 0)))) (dTst (dOp rLtA (dCB rLen (dCons (dVar 2) dNil)) (dC (.int 4)))))
  (dSeq (dSet 4 (dOp rIxD (dCB rTup (dCons (dC (.int 1)) (dCons (dUn rNegA (dC (.int 1))) (dCons (dC (.int 1)) (dCons (dUn rNegA (dC (.int 1))) (dCons (dC (.int 2)) (dCons (dUn rNegA (dC (.int 3))) (dCons (dC (.int 9)) (dCons (dUn rNegA (dC (.int 9))) dNil))))))))) (dCall sp_law_draw_82fd (dCons (dVar 0) (dCons (dC (.int 8)) dNil)))))
  (dDrop (dApp (dVar 2) (dCons (dCB rTup (dCons (dVar 3) (dCons (dVar 4) dNil))) dNil))))
  dNext))
  (dSeq (dIf (dTst (dOp rEqA (dCB rLen (dCons (dVar 2) dNil)) (dC (.int 0))))
  (dDrop (dApp (dVar 2) (dCons (dCB rTup (dCons (dOp rIxD (dVar 1) (dC (.int 0))) (dCons (dC (.int 1)) dNil))) dNil)))
  dNext)
  (dRet (dCB rTupOf (dCons (dVar 2) dNil))))))
theorem rd_law_terms_6d2d (ds M Q E) (h : sp_law_terms_6d2d ds M Q E) : w_law_terms_6d2d { nx := fun _ M' => Q .non M', rt := Q } (startD 5 ds) M := by
  obtain ⟨st, b, ns, rfl, hL, hb, hne, hnd, hlen, hq⟩ := h
  refine ⟨by show 0 ≤ sizeLine; decide, fun f hf => ?_⟩
  have fst_ : f ≠ st := fun e => hL.some_ (by rw [← e]; exact hf)
  refine ⟨_, rfl, ?_⟩
  refine dLoop_ind (fun rest δ M5 => ∃ (done todo : List Str) (t : List (Str × Int)) (b3 b4 : Option D), rest = todo.map D.str ∧ ns = done ++ todo ∧ (∀ x, x ∈ t → x.1 ∈ done) ∧ (t.map Prod.fst).Nodup ∧ (∀ x, x ∈ t → x.2.natAbs ≤ 9 ∧ x.2 ≠ 0) ∧ t.length ≤ 4 ∧ Ls st (b + 2 * done.length) M5 ∧ M5 f = some (.lst (t.map trmD)) ∧ KpX st M M5 ∧ δ = [some (.ref st), some (.lst (ns.map D.str)), some (.ref f), b3, b4]) ?_ ?_ _ _ _ ⟨[], ns, [], none, none, rfl, rfl, fun _ h => (nomatch h), List.nodup_nil, fun _ h => (nomatch h), by show 0 ≤ 4; decide, hL.kpA (KpA.new hf), mput_same, KpX.new hf, rfl⟩
  · rintro d0 xs δ M5 K hK ⟨done, todo, t, b3, b4, e, en, hs, ht, hc, h4, hL5, hf5, kp5, rfl⟩
    cases todo with
    | nil => cases e
    | cons y todo =>
      injection e with e1 e2
      subst e1; subst e2
      have hlen2 : done.length + (todo.length + 1) ≤ 100 := by rw [en, List.length_append, List.length_cons] at hlen; exact hlen
      have hyd : y ∉ done := fun z => by
        rw [en] at hnd
        exact (List.nodup_append.mp hnd).2.2 y z y List.mem_cons_self rfl
      have go : ∀ M6 b4', Ls st (b + 2 * done.length + 1) M6 → M6 f = some (.lst (t.map trmD)) → KpX st M M6 → K [some (.ref st), some (.lst (ns.map D.str)), some (.ref f), some (.str y), b4'] M6 := fun M6 b4' hL6 hf6 kp6 =>
        hK _ _ ⟨done ++ [y], todo, t, _, _, rfl, by rw [en, List.append_assoc]; rfl, fun x hx => List.mem_append_left _ (hs x hx), ht, hc, h4, hL6.mono (by rw [List.length_append, List.length_singleton]; omega), hf6, kp6, rfl⟩
      refine ⟨trivial, ?_⟩
      refine draw_at rfl hL5 (by decide) (by omega) fun x M6 hx0 hx1 hL6 hO6 => ⟨trivial, _, rfl, ite_d (fun c1 => ?_) fun c1 => ?_⟩
      · have hf6 : M6 f = some (.lst (t.map trmD)) := (hO6 f fst_).trans hf5
        have kp6 := kp5.trans (KpX.off hO6)
        refine ⟨_, rfl, _, t.length, rfl, ⟨_, hf6, by rw [List.length_map]⟩, trivial, _, rfl, ite_d (fun c2 => ?_) fun c2 => go M6 _ hL6 hf6 kp6⟩
        refine ⟨by show 8 ≤ sizeLine; decide, ?_⟩
        refine draw_at rfl hL6 (by decide) (by omega) fun k M7 hk0 hk1 hL7 hO7 => ⟨k, rfl, ?_⟩
        have hf7 : M7 f = some (.lst (t.map trmD)) := (hO7 f fst_).trans hf6
        have kp7 := kp6.trans (KpX.off hO7)
        have fin : ∀ (bk : DS0 → Mem → Prop) (c : Int), c.natAbs ≤ 9 ∧ c ≠ 0 → (dDrop (dApp (dVar 2) (dCons (dCB rTup (dCons (dVar 3) (dCons (dVar 4) dNil))) dNil))) { nx := K, rt := Q, bk := bk, ct := K } [some (.ref st), some (.lst (ns.map D.str)), some (.ref f), some (.str y), some (.int c)] M7 := fun bk c hc9 => by
          refine ⟨_, rfl, ⟨f, _, rfl, hf7⟩, _, rfl, _, rfl, by show 2 ≤ sizeLine; decide, f, _, _, rfl, rfl, hf7, by rw [List.length_map]; exact sz16lt (by omega), ?_⟩
          refine hK _ _ ⟨done ++ [y], todo, t ++ [(y, c)], _, _, rfl, by rw [en, List.append_assoc]; rfl, fun x hx => ?_, ?_, fun x hx => ?_, by rw [List.length_append, List.length_singleton]; omega, ?_, by rw [mput_same, List.map_append]; rfl, fun a o na e => ?_, rfl⟩
          · rcases List.mem_append.mp hx with hx | hx
            · exact List.mem_append_left _ (hs x hx)
            · rw [List.mem_singleton.mp hx]; exact List.mem_append_right _ List.mem_cons_self
          · rw [List.map_append]
            refine List.nodup_append.mpr ⟨ht, List.nodup_cons.mpr ⟨fun z => (nomatch z), List.nodup_nil⟩, fun a ha b hb e => ?_⟩
            obtain ⟨z, hz, rfl⟩ := List.mem_map.mp ha
            rw [List.mem_singleton.mp hb] at e
            exact hyd (by rw [show y = z.1 from e.symm]; exact hs z hz)
          · rcases List.mem_append.mp hx with hx | hx
            · exact hc x hx
            · rw [List.mem_singleton.mp hx]; exact hc9
          · refine (hL7.off ?_).mono (by rw [List.length_append, List.length_singleton]; omega)
            exact mput_ne fst_.symm
          · have : a ≠ f := fun z => by rw [z, hf] at e; cases e
            rw [mput_ne this]; exact kp7 a o na e
        obtain rfl | rfl | rfl | rfl | rfl | rfl | rfl | rfl : k = 0 ∨ k = 1 ∨ k = 2 ∨ k = 3 ∨ k = 4 ∨ k = 5 ∨ k = 6 ∨ k = 7 := by omega
        · exact ⟨_, rfl, fin _ 1 (by decide)⟩
        · exact ⟨_, rfl, fin _ (-1) (by decide)⟩
        · exact ⟨_, rfl, fin _ 1 (by decide)⟩
        · exact ⟨_, rfl, fin _ (-1) (by decide)⟩
        · exact ⟨_, rfl, fin _ 2 (by decide)⟩
        · exact ⟨_, rfl, fin _ (-3) (by decide)⟩
        · exact ⟨_, rfl, fin _ 9 (by decide)⟩
        · exact ⟨_, rfl, fin _ (-9) (by decide)⟩
      · exact ite_f (go M6 _ hL6 ((hO6 f fst_).trans hf5) (kp5.trans (KpX.off hO6)))
  · rintro δ M5 ⟨done, todo, t, b3, b4, e, en, hs, ht, hc, h4, hL5, hf5, kp5, rfl⟩
    cases todo with
    | cons y todo => cases e
    | nil =>
      rw [List.append_nil] at en
      subst en
      refine ⟨trivial, _, rfl, _, t.length, rfl, ⟨_, hf5, by rw [List.length_map]⟩, .inl ⟨rfl, rfl, eI ⟨_, rfl, ite_d (fun c => ?_) fun c => ?_⟩⟩⟩
      · have h0 : t = [] := List.eq_nil_of_length_eq_zero (by omega)
        subst h0
        cases ns with
        | nil => exact absurd rfl hne
        | cons z ns =>
          refine ⟨_, rfl, ⟨f, _, rfl, hf5⟩, _, rfl, 0, rfl, _, at0', by show 2 ≤ sizeLine; decide, f, _, _, rfl, rfl, hf5, by show 0 < sizeLine; decide, ?_⟩
          refine ⟨_, rfl, .inr (.inr ⟨f, _, rfl, mput_same, hq [(z, 1)] _ ⟨fun h => (nomatch h), fun x hx => ?_, List.nodup_cons.mpr ⟨fun z => (nomatch z), List.nodup_nil⟩, fun x hx => ?_, by show 1 ≤ 4; decide⟩ ?_ fun a o na e => ?_⟩)⟩
          · rw [List.mem_singleton.mp hx]; exact List.mem_cons_self
          · rw [List.mem_singleton.mp hx]; show (1 : Int).natAbs ≤ 9 ∧ (1 : Int) ≠ 0; decide
          · exact hL5.off (mput_ne fst_.symm)
          · have : a ≠ f := fun z => by rw [z, hf] at e; cases e
            rw [mput_ne this]; exact kp5 a o na e
      · exact ⟨_, rfl, .inr (.inr ⟨f, _, rfl, hf5, hq t _ ⟨fun z => c (by rw [z]; rfl), hs, ht, hc, h4⟩ hL5 kp5⟩)⟩
theorem mkRdE {AD : Ad} {M : Mem} {Q : DK} {r : Rdg} (q : Q (rdgD AD r) M) : ∀ x, M x = none → sp_Reading___init__ AD [.ref x, .str r.name, trmsD r.terms, .rat r.value, .rat r.weight] (mput M x (.ins AD.rd [] [])) (fun d M2 => d = .non ∧ ∃ ns xs, M2 x = some (.ins AD.rd ns xs) ∧ Q (.obj AD.rd ns xs) (mdel M2 x)) noX := fun x hx =>
  ⟨x, _, _, _, _, rfl, mput_same, rfl, _, _, mput_same, by
    rw [mput_mput, mdel_new hx]
    exact q⟩
def sp_law_reading (AD : Ad) : DSp := fun ds M Q _ => ∃ (st : Addr) (b : Nat) (ns : List Str) (k : Nat), ds = [.ref st, .lst (ns.map D.str), .int (k : Int)] ∧ Ls st b M ∧ b ≤ 1000000 ∧ ns ≠ [] ∧ ns.Nodup ∧ ns.length ≤ 12 ∧ (∀ x, x ∈ ns → SO x) ∧ k < 30 ∧ ∀ r M', r.name = rnm k → TrmOk ns r.terms → RdN r → Rt r.value → CD 28 2048 r.weight → Ls st (b + 40) M' → KpX st M M' → Q (rdgD AD r) M'
def w_law_reading (AD : Ad) : DSt :=
  (dRet (dMkZ AD.rd (sp_Reading___init__ AD) (dCons (dOp rAdd (dC (.str "r")) (dCB rStrI (dCons (dVar 2) dNil))) (dCons (dCall sp_law_terms_6d2d (dCons (dVar 0) (dCons (dVar 1) dNil))) (dCons (dCall sp_law_ratio_0f72 (dCons (dVar 0) dNil)) (dCons (dCall sp_law_weight_w (dCons (dVar 0) dNil)) dNil))))))
theorem rd_law_reading (AD : Ad) (ds M Q E) (h : sp_law_reading AD ds M Q E) : w_law_reading AD { nx := fun _ M' => Q .non M', rt := Q } (startD 3 ds) M := by
  obtain ⟨st, b, ns, k, rfl, hL, hb, hne, hnd, hlen, hso, hk, hq⟩ := h
  refine ⟨_, rfl, _, rfl, by rw [Int.natAbs_natCast]; exact Nat.lt_of_le_of_lt (Nat.log2_le_self _) (by omega), sz16 (Nat.le_trans (rnm_len k hk) (by decide)), ?_⟩
  refine ⟨_, rfl, _, rfl, st, b, ns, rfl, hL, hb, hne, hnd, by omega, fun t M1 ht hL1 kp1 => ?_⟩
  refine ⟨_, rfl, st, _, rfl, hL1, by omega, fun v M2 hv hL2 hO2 => ?_⟩
  refine ⟨_, rfl, st, _, rfl, hL2, by omega, fun q M3 _ cq pq hL3 hO3 => ?_⟩
  refine mkRdE (r := ⟨rnm k, t, v, q⟩) ?_
  exact hq ⟨rnm k, t, v, q⟩ M3 rfl ht ⟨⟨rnm_so k hk, fun x hx => hso _ (ht.sub x hx), Nat.le_trans ht.few (by decide)⟩, ht.nd, fun x hx => (ht.cf x hx).1, WOk.of28 pq cq, hv.v⟩ hv cq (hL3.mono (by omega)) ((kp1.trans (KpX.off hO2)).trans (KpX.off hO3))
def sp_law_names_51c2 : DSp := fun ds M Q _ => ∃ (st : Addr) (b : Nat) (m : Int), ds = [.ref st, .int m] ∧ Ls st b M ∧ b ≤ 1000000 ∧ 0 < m ∧ m ≤ 12 ∧ ∀ (w : Nat) M', 1 ≤ w → (w : Int) ≤ m → Ls st (b + 1) M' → Off st M M' → Q (.lst ((pnms w).map D.str)) M'
def w_law_names_51c2 : DSt :=
  (dRet (dLc (dRng1 (dCons (dOp rAdd (dC (.int 1)) (dCall sp_law_draw_82fd (dCons (dVar 0) (dCons (dVar 1) dNil)))) dNil)) (gNm 2) dYes (dOp rAdd (dC (.str "p")) (dCB rStrI (dCons (dVar 2) dNil))) [2]))
theorem rd_law_names_51c2 (ds M Q E) (h : sp_law_names_51c2 ds M Q E) : w_law_names_51c2 { nx := fun _ M' => Q .non M', rt := Q } (startD 3 ds) M := by
  obtain ⟨st, b, m, rfl, hL, hb, h0, h12, hq⟩ := h
  refine ⟨_, rfl, _, rfl, st, b, m, rfl, hL, by omega, h0, fun x M1 hx0 hx1 hL1 hO1 => ?_⟩
  obtain ⟨k, rfl⟩ := Int.eq_ofNat_of_zero_le hx0
  refine ⟨1 + (k : Int), rfl, ⟨by omega, by omega⟩, ?_⟩
  rw [show 1 + (k : Int) = ((k + 1 : Nat) : Int) by omega, rngD_eq]
  refine lc_of (j := 2) (fun (k : Nat) => D.int (k : Int)) (fun k => D.str (pnm k)) (fun k => k < 30) (fun k M K hk q => ?_) (List.range' 0 (k + 1)) [] _ (fun j hj => by have := (List.mem_range'_1.mp hj).2; omega) (by rw [List.length_range']; exact sz16 (by show 0 + _ ≤ _; omega)) ?_
  · exact ⟨_, rfl, _, rfl, by rw [Int.natAbs_natCast]; exact Nat.lt_of_le_of_lt (Nat.log2_le_self _) (by omega), sz16 (Nat.le_trans (pnm_len k hk) (by decide)), q⟩
  · rw [List.nil_append]
    have := hq (k + 1) M1 (by omega) (by omega) hL1 hO1
    unfold pnms at this
    rw [List.map_map] at this
    exact this
theorem KpX.ne {st a : Addr} {M M' : Mem} {o : MO} (k : KpX st M M') (h : a ≠ st) (e : M a = some o) : M' a = some o := k a o h e
def sp_law_net_71f1 (AD : Ad) : DSp := fun ds M Q _ => ∃ (st : Addr) (b : Nat) (most many : Nat), ds = [.ref st, .int (most : Int), .int (many : Int)] ∧ Ls st b M ∧ b ≤ 100000 ∧ 0 < most ∧ most ≤ 5 ∧ 0 < many ∧ many ≤ 20 ∧
  ∀ (p a1 a3 l : Addr) (n : Nt) M', NtAt AD p a1 a3 n M' → NtLw n most many → M' l = some (.lst (n.rds.map (rdgD AD))) → (l ≠ p ∧ l ≠ a1 ∧ l ≠ a3) → (st ≠ p ∧ st ≠ a1 ∧ st ≠ a3) → st ≠ l → Ls st (b + 1000) M' → KpX st M M' → Q (.lst [.ref p, .lst (n.pts.map D.str), .ref l]) M'
def w_law_net_71f1 (AD : Ad) : DSt :=
  (dSeq (dSet 3 (dCall sp_law_names_51c2 (dCons (dVar 0) (dCons (dVar 1) dNil))))
  (dSeq (dSet 4 (dMkR AD.nt (sp_Net___init__ AD) dNil))
  (dSeq (dFor (dIt (dVar 3)) (gNm 5)
  (dDrop (dMethC AD.nt "add_point" (sp_Net_add_point_5ee7 AD) noE (dVar 4) (dCons (dVar 5) (dCons (dCall sp_law_ratio_0f72 (dCons (dVar 0) dNil)) dNil)))))
  (dSeq (dSet 6 (dCB rLstR dNil))
  (dSeq (dFor (dRng1 (dCons (dCall sp_law_draw_82fd (dCons (dVar 0) (dCons (dVar 2) dNil))) dNil)) (gNm 7)
  (dSeq (dDrop (dApp (dVar 6) (dCons (dCall (sp_law_reading AD) (dCons (dVar 0) (dCons (dVar 3) (dCons (dVar 7) dNil)))) dNil)))
  (dDrop (dMethC AD.nt "add" (sp_Net_add_48dc AD) noE (dVar 4) (dCons (dOp rIxD (dVar 6) (dUn rNegA (dC (.int 1)))) dNil)))))
  (dRet (dCB rLstV (dCons (dVar 4) (dCons (dVar 3) (dCons (dVar 6) dNil))))))))))
theorem rd_law_net_71f1 (AD : Ad) (ds M Q E) (h : sp_law_net_71f1 AD ds M Q E) : w_law_net_71f1 AD { nx := fun _ M' => Q .non M', rt := Q } (startD 8 ds) M := by
  obtain ⟨st, b, most, many, rfl, hL, hb, hm0, hm5, hy0, hy20, hq⟩ := h
  refine ⟨_, rfl, _, rfl, st, b, (most : Int), rfl, hL, by omega, by omega, by omega, fun w M1 hw1 hw2 hL1 hO1 => ?_⟩
  have hw2 : w ≤ most := by omega
  intro p hp
  refine ⟨p, rfl, mput_same, fun a1 a3 M2 B2 kp2 n1 n3 => ⟨rfl, ?_⟩⟩
  have kA2 : KpA M1 M2 := fun a o e => by
    have : a ≠ p := fun z => by rw [z, hp] at e; cases e
    exact kp2 a o this (by rw [mput_ne this]; exact e)
  have no : ∀ c, mput M1 p (.ins AD.nt [] []) c = none → M1 c = none := fun c hc => by
    have : c ≠ p := fun z => by rw [z, mput_same] at hc; cases hc
    rw [mput_ne this] at hc; exact hc
  have m1 := no a1 n1
  have m3 := no a3 n3
  have hst : st ≠ p ∧ st ≠ a1 ∧ st ≠ a3 := ⟨hL1.ne hp, hL1.ne m1, hL1.ne m3⟩
  have hfr : ∀ a o, M1 a = some o → a ≠ p ∧ a ≠ a1 ∧ a ≠ a3 := fun a o e => ⟨fun z => (by rw [z, hp] at e; cases e), fun z => (by rw [z, m1] at e; cases e), fun z => (by rw [z, m3] at e; cases e)⟩
  have wl := pnms_len w
  refine ⟨_, rfl, ?_⟩
  refine dLoop_ind (fun rest δ M5 => ∃ (i : Nat) (apx : List Rat) (b5 : Option D), i ≤ w ∧ rest = ((pnms w).drop i).map D.str ∧ NtAt AD p a1 a3 ⟨(pnms w).take i, apx, []⟩ M5 ∧ NtOk ⟨(pnms w).take i, apx, []⟩ ∧ (∀ q, q ∈ apx → Rt q) ∧ Ls st (b + 1 + 5 * i) M5 ∧ KpX st M1 M5 ∧ δ = [some (.ref st), some (.int (most : Int)), some (.int (many : Int)), some (.lst ((pnms w).map D.str)), some (.ref p), b5, none, none]) ?_ ?_ _ _ _
    ⟨0, [], none, Nat.zero_le _, by rw [List.drop_zero], by rw [List.take_zero]; exact B2, by rw [List.take_zero]; exact NtOk.nil, fun _ h => (nomatch h), hL1.kpA kA2, KpX.ofA kA2, rfl⟩
  · rintro d0 xs δ M5 K hK ⟨i, apx, b5, hi, e, B, ok, hr, hL5, kp5, rfl⟩
    by_cases hlt : i < w
    case neg => rw [List.drop_eq_nil_of_le (by omega)] at e; cases e
    have hlt2 : i < (pnms w).length := by omega
    rw [List.drop_eq_getElem_cons hlt2] at e
    injection e with e1 e2
    subst e1; subst e2
    have ex : (pnms w)[i]? = some (pnms w)[i] := List.getElem?_eq_getElem hlt2
    generalize hx : (pnms w)[i] = x at ex
    have hxm : x ∈ pnms w := by rw [← hx]; exact List.getElem_mem hlt2
    have hnot : x ∉ (pnms w).take i := fun m => by
      obtain ⟨j, hj, ej⟩ := List.getElem_of_mem m
      rw [List.length_take] at hj
      rw [List.getElem_take, ← hx] at ej
      have := (List.getElem_inj (pnms_nd (n := w) (by omega))).mp ej
      omega
    refine ⟨trivial, _, rfl, _, _, .inr ⟨p, rfl, B.ins⟩, by decide, _, rfl, _, rfl, st, _, rfl, hL5, by omega, fun q M6 hq6 hL6 hO6 => ?_⟩
    have B6 : NtAt AD p a1 a3 ⟨(pnms w).take i, apx, []⟩ M6 := B.kpX (KpX.off hO6) ⟨hst.1.symm, hst.2.1.symm, hst.2.2.symm⟩
    refine ⟨.inr ⟨p, rfl, B6.ins⟩, p, a1, a3, _, x, q, rfl, B6, ok, pnms_so (by omega) x hxm, ?_⟩
    have hl12 : ((pnms w).take i).length < 12 := by rw [List.length_take]; omega
    rw [show naddP ⟨(pnms w).take i, apx, []⟩ x q = .ok ⟨(pnms w).take i ++ [x], apx ++ [q], []⟩ by unfold naddP; rw [if_neg hnot, if_neg (by show ¬ ((pnms w).take i).length = 12; omega)]; rfl]
    intro M7 B7 k7
    have ok7 := ok.addP (x := x) (q := q) hnot (pnms_so (by omega) x hxm) hq6.v hl12
    have et : (pnms w).take (i + 1) = (pnms w).take i ++ [x] := by rw [List.take_add_one, ex]; rfl
    refine hK _ _ ⟨i + 1, apx ++ [q], _, by omega, rfl, by rw [et]; exact B7, by rw [et]; exact ok7, fun y hy => ?_, (hL6.kpN k7 hst).mono (by omega), fun a o na e => ?_, rfl⟩
    · rcases List.mem_append.mp hy with hy | hy
      · exact hr y hy
      · rw [List.mem_singleton.mp hy]; exact hq6
    · exact k7 a o (hfr a o e) ((hO6 a na).trans (kp5 a o na e))
  rintro δ M5 ⟨i, apx, b5, hi, e, B, ok, hr, hL5, kp5, rfl⟩
  have hiw : i = w := by
    have := congrArg List.length e
    rw [List.length_map, List.length_drop, wl] at this
    have h0 : (0 : Nat) = w - i := this
    omega
  subst hiw
  rw [show (pnms i).take i = pnms i from List.take_of_length_le (by omega)] at B ok
  refine ⟨trivial, by show 0 ≤ sizeLine; decide, fun l hl => ?_⟩
  have kl := KpA.new (o := .lst []) hl
  have hlp : l ≠ p ∧ l ≠ a1 ∧ l ≠ a3 := ⟨fun z => (by rw [z, B.ins] at hl; cases hl), fun z => (by rw [z, B.pts] at hl; cases hl), fun z => (by rw [z, B.rds] at hl; cases hl)⟩
  have hls : st ≠ l := hL5.ne hl
  have hlf : ∀ a o, M1 a = some o → a ≠ st → a ≠ l := fun a o e na z => by have := kp5 a o na e; rw [z, hl] at this; cases this
  refine ⟨_, rfl, _, rfl, st, _, (many : Int), rfl, hL5.kpA kl, by omega, by omega, fun x M6 hx0 hx1 hL6 hO6 => ?_⟩
  obtain ⟨k, rfl⟩ := Int.eq_ofNat_of_zero_le hx0
  refine ⟨(k : Int), rfl, ⟨by omega, by omega⟩, ?_⟩
  rw [rngD_eq]
  have B6 : NtAt AD p a1 a3 ⟨pnms i, apx, []⟩ M6 := (B.mono kl).kpX (KpX.off hO6) ⟨hst.1.symm, hst.2.1.symm, hst.2.2.symm⟩
  have kp6 : KpX st M1 M6 := (kp5.trans (KpX.ofA kl)).trans (KpX.off hO6)
  refine dLoop_ind (fun rest δ M7 => ∃ (j : Nat) (n : Nt) (b7 : Option D), j ≤ k ∧ rest = (List.range' j (k - j)).map (fun (k : Nat) => D.int (k : Int)) ∧ NtAt AD p a1 a3 n M7 ∧ NtOk n ∧ n.pts = pnms i ∧ n.apx = apx ∧ n.rds.length = j ∧ n.rds.map Rdg.name = (List.range' 0 j).map rnm ∧ (∀ r, r ∈ n.rds → TrmOk (pnms i) r.terms ∧ Rt r.value ∧ CD 28 2048 r.weight) ∧ M7 l = some (.lst (n.rds.map (rdgD AD))) ∧ Ls st (b + 100 + 40 * j) M7 ∧ KpX st M1 M7 ∧ δ = [some (.ref st), some (.int (most : Int)), some (.int (many : Int)), some (.lst ((pnms i).map D.str)), some (.ref p), b5, some (.ref l), b7]) ?_ ?_ _ _ _
    ⟨0, ⟨pnms i, apx, []⟩, none, Nat.zero_le _, rfl, B6, ok, rfl, rfl, rfl, rfl, fun _ h => (nomatch h), (hO6 l hls.symm).trans mput_same, hL6.mono (by omega), kp6, rfl⟩
  · rintro d0 xs δ M7 K hK ⟨j, n, b7, hj, e, B, ok, hp1, hp2, hln, hnm, hrs, hl7, hL7, kp7, rfl⟩
    by_cases hlt : j < k
    case neg => rw [show k - j = 0 by omega] at e; cases e
    rw [show k - j = (k - (j + 1)) + 1 by omega] at e
    injection e with e1 e2
    subst e1; subst e2
    have hwn : (pnms i).length = i := pnms_len i
    refine ⟨trivial, _, rfl, ⟨l, _, rfl, hl7⟩, _, rfl, _, rfl, _, rfl, st, _, pnms i, j, rfl, hL7, by omega, fun z => (by rw [z] at hwn; have : (0 : Nat) = i := hwn; omega), pnms_nd (by omega), by omega, pnms_so (by omega), by omega, fun r M8 hrn htm hrd hv hwt hL8 kp8 => ?_⟩
    have hl8 := kp8 l _ hls.symm hl7
    have B8 : NtAt AD p a1 a3 n M8 := B.kpX kp8 ⟨hst.1.symm, hst.2.1.symm, hst.2.2.symm⟩
    refine ⟨l, _, _, rfl, rfl, hl8, by rw [List.length_map]; exact sz16lt (by omega), ?_⟩
    have B9 : NtAt AD p a1 a3 n (mput M8 l (.lst (n.rds.map (rdgD AD) ++ [rdgD AD r]))) := ⟨by rw [mput_ne hlp.1.symm]; exact B8.ins, by rw [mput_ne hlp.2.1.symm]; exact B8.pts, by rw [mput_ne hlp.2.2.symm]; exact B8.rds, B8.ne⟩
    refine ⟨_, rfl, _, _, .inr ⟨p, rfl, B9.ins⟩, by decide, _, rfl, -1, rfl, _, _, mput_same, at_neg1 (x := rdgD AD r) (by rw [List.length_append, List.length_singleton, Nat.add_sub_cancel, List.getElem?_append_right (Nat.le_refl _), Nat.sub_self]; rfl), .inr ⟨p, rfl, B9.ins⟩, p, a1, a3, n, r, rfl, B9, ok, by rw [hp1]; omega, hrd, ?_⟩
    have hnew : r.name ∉ n.rds.map Rdg.name := by
      rw [hnm, hrn]
      intro m
      obtain ⟨z, hz, ez⟩ := List.mem_map.mp m
      have := (List.mem_range'_1.mp hz).2
      have := rnm_inj z (by omega) j (by omega) ez
      omega
    have hsub : ∀ x, x ∈ r.terms → x.1 ∈ n.pts := fun x hx => by rw [hp1]; exact htm.sub x hx
    rw [show naddR n r = .ok (n.addR r) by unfold naddR; rw [if_neg hnew, unk_all hsub]; show (if n.rds.length = 24 then _ else _) = _; rw [if_neg (by omega)]]
    intro M10 B10 k10
    refine hK _ _ ⟨j + 1, n.addR r, _, by omega, rfl, B10, ok.addR hrd hsub (by omega), hp1, hp2, by show (n.rds ++ [r]).length = _; rw [List.length_append, hln]; rfl, ?_, fun s hs => ?_, ?_, ?_, fun a o na e => ?_, rfl⟩
    · show (n.rds ++ [r]).map Rdg.name = _
      rw [List.map_append, hnm, List.range'_concat, List.map_append]
      show _ ++ [r.name] = _ ++ [rnm (0 + 1 * j)]
      rw [hrn, Nat.one_mul, Nat.zero_add]
    · rcases List.mem_append.mp hs with hs | hs
      · exact hrs s hs
      · rw [List.mem_singleton.mp hs]; exact ⟨htm, hv, hwt⟩
    · refine k10 l _ hlp ?_
      rw [mput_same]
      show _ = some (MO.lst ((n.rds ++ [r]).map (rdgD AD)))
      rw [List.map_append]; rfl
    · exact ((hL8.off (mput_ne hls)).kpN k10 hst).mono (by omega)
    · refine k10 a o (hfr a o e) ?_
      rw [mput_ne (hlf a o e na)]
      exact kp8 a o na (kp7 a o na e)
  · rintro δ M7 ⟨j, n, b7, hj, e, B, ok, hp1, hp2, hln, hnm, hrs, hl7, hL7, kp7, rfl⟩
    have hjk : j = k := by
      have := congrArg List.length e
      rw [List.length_map, List.length_range'] at this
      have h0 : (0 : Nat) = k - j := this
      omega
    subst hjk
    have hwn : (pnms i).length = i := pnms_len i
    refine ⟨trivial, _, rfl, _, rfl, _, rfl, by show 3 ≤ sizeLine; decide, ?_⟩
    rw [← hp1]
    refine hq p a1 a3 l n M7 B ⟨ok, by rw [hp1]; omega, by rw [hp1]; omega, by rw [hp1, hwn], by omega, by rw [hln]; exact hnm, fun r hr => by rw [hp1]; exact (hrs r hr).1, fun q hq => by rw [hp2] at hq; exact hr q hq, fun r hr => (hrs r hr).2.1, fun r hr => (hrs r hr).2.2⟩ hl7 hlp hst hls (hL7.mono (by omega)) ((KpX.off hO1).trans kp7)
def sp_law_state_87c3 : DSp := fun ds M Q _ => ∃ ns : List Int, ds = [.scr (dInts ns)] ∧ ns.length ≤ 63 ∧ ∀ st M', M st = none → Ls st 0 M' → Off st M M' → Q (.ref st) M'
def w_law_state_87c3 : DSt :=
  (dSeq (dSet 1 (dCB rLstR dNil))
  (dSeq (dSet 2 (dC (.int 7)))
  (dSeq (dFor (dIt (dVar 0)) (gNm 3)
  (dSeq (dSet 4 (dCB rAbsI (dCons (dVar 3) dNil)))
  (dSeq (dSet 2 (dOp rMod (dCB rInt (dCons (dOp rAddP (dOp rAddP (dOp rMulI (dVar 2) (dC (.int 69621))) (dVar 4)) (dC (.int 5))) dNil)) (dC (.int 2147483647))))
  (dFor (dRng1 (dCons (dC (.int 60)) dNil)) (gNm 5)
  (dIf (dOr (dTst (dOp rGt (dVar 4) (dC (.int 0)))) (dTst (dOp rEqP (dVar 5) (dC (.int 0)))))
  (dSeq (dDrop (dApp (dVar 1) (dCons (dOp rMod (dCB rInt (dCons (dVar 4) dNil)) (dC (.int 1000))) dNil)))
  (dSet 4 (dOp rFdiv (dVar 4) (dC (.int 1000)))))
  dNext)))))
  (dGo (dRet (dCB rLstR (dCons (dVar 1) (dCons (dC (.int 0)) (dCons (dVar 2) dNil)))))))))
theorem rd_law_state_87c3 (ds M Q E) (h : sp_law_state_87c3 ds M Q E) : w_law_state_87c3 { nx := fun _ M' => Q .non M', rt := Q } (startD 6 ds) M := by
  obtain ⟨ns, rfl, hl, hq⟩ := h
  refine ⟨Nat.zero_le _, fun p hp => ?_⟩
  refine ⟨_, rfl, ?_⟩
  refine dLoop_ind (fun rest δ M1 => ∃ (ts : List Int) (s : Int) (a3 a4 a5 : Option D) (ks : List Int) (n : Nat), rest = dInts ks ∧ n + ks.length ≤ 63 ∧ (0 ≤ s ∧ s < 2147483648) ∧ δ = [some (.scr (dInts ns)), some (.ref p), some (.int s), a3, a4, a5] ∧ M1 = mput M p (.lst (dInts ts)) ∧ (ts.length ≤ 60 * n ∧ ∀ t, t ∈ ts → 0 ≤ t ∧ t < 1000)) ?_ ?_ _ _ _
    ⟨[], 7, none, none, none, ns, 0, rfl, by omega, by decide, rfl, rfl, by simp, by simp⟩
  · rintro x xs δ M1 K hK ⟨ts, s, a3, a4, a5, ks, n, e, hn, hs, rfl, rfl, ht⟩
    refine ⟨trivial, ?_⟩
    obtain ⟨c, ks, rfl⟩ : ∃ c r, ks = c :: r := by
      cases ks with
      | nil => cases e
      | cons c r => exact ⟨c, r, rfl⟩
    injection e with e1 e2
    subst e1; subst e2
    have hn' : n + 1 + ks.length ≤ 63 := by rw [List.length_cons] at hn; omega
    refine ⟨_, rfl, c, rfl, ?_⟩
    have hz : 0 ≤ (if c < 0 then -c else c) := by split <;> omega
    generalize (if c < 0 then -c else c) = z at hz
    refine ⟨_, rfl, mulR (by decide) (by decide), _, rfl, .inl ⟨_, rfl, (by decide : (2147483647 : Int) ≠ 0), ?_⟩⟩
    dsimp only
    rw [fmod_pos (show (0 : Int) < 2147483647 by decide)]
    have hs2 : 0 ≤ (s * 69621 + z + 5) % 2147483647 ∧ (s * 69621 + z + 5) % 2147483647 < 2147483648 := by omega
    generalize (s * 69621 + z + 5) % 2147483647 = s2 at hs2
    refine ⟨60, rfl, by decide, ?_⟩
    refine dLoop_ind (fun rest δ M1 => ∃ (ts : List Int) (z : Int) (a5 : Option D), 0 ≤ z ∧ (∀ d, d ∈ rest → ∃ k : Int, d = .int k) ∧ δ = [some (.scr (dInts ns)), some (.ref p), some (.int s2), some (.int c), some (.int z), a5] ∧ M1 = mput M p (.lst (dInts ts)) ∧ (ts.length + rest.length ≤ 60 * n + 60 ∧ ∀ t, t ∈ ts → 0 ≤ t ∧ t < 1000)) ?_ ?_ _ _ _
      ⟨ts, z, a5, hz, fun d hd => by obtain ⟨k, _, rfl⟩ := List.mem_map.mp hd; exact ⟨_, rfl⟩, rfl, rfl, by have := ht.1; show ts.length + 60 ≤ _; omega, ht.2⟩
    · rintro x xs δ M1 K2 hK2 ⟨ts, z, a5, hz, hr, rfl, rfl, ht2⟩
      obtain ⟨k, rfl⟩ := hr x List.mem_cons_self
      have hr2 : ∀ d, d ∈ xs → ∃ k : Int, d = .int k := fun d hd => hr d (List.mem_cons_of_mem _ hd)
      have h60 := ht2.1
      rw [List.length_cons] at h60
      have yes : (dSeq (dDrop (dApp (dVar 1) (dCons (dOp rMod (dCB rInt (dCons (dVar 4) dNil)) (dC (.int 1000))) dNil))) (dSet 4 (dOp rFdiv (dVar 4) (dC (.int 1000))))) { nx := K2, rt := Q, bk := K, ct := K2 } [some (.scr (dInts ns)), some (.ref p), some (.int s2), some (.int c), some (.int z), some (.int k)] (mput M p (.lst (dInts ts))) := by
        refine ⟨_, rfl, ⟨p, dInts ts, rfl, mput_same⟩, _, rfl, .inl ⟨z, rfl, (by decide : (1000 : Int) ≠ 0), p, dInts ts, _, rfl, rfl, mput_same, ?_, ?_⟩⟩
        · unfold dInts; rw [List.length_map]
          exact sz16lt (by omega)
        · refine ⟨_, rfl, cfd_small (by decide) (by decide), ?_⟩
          dsimp only
          rw [fmod_pos (show (0 : Int) < 1000 by decide), fdiv_pos (show (0 : Int) < 1000 by decide), mput_mput, dInts_app]
          refine hK2 _ _ ⟨ts ++ [z % 1000], z / 1000, _, by omega, hr2, rfl, rfl, by rw [List.length_append, List.length_singleton]; omega, fun u hu => ?_⟩
          rcases List.mem_append.mp hu with hu | hu
          · exact ht2.2 u hu
          · rw [List.mem_singleton.mp hu]; omega
      refine ⟨trivial, ⟨_, rfl, trivial, _, rfl, ite_d (fun h => yes) (fun h => ⟨_, rfl, .inl ⟨rfl, rfl, fun b hb => ⟨b, rfl, ite_b (fun _ => yes) (fun _ => ?_)⟩⟩⟩)⟩⟩
      exact hK2 _ _ ⟨ts, z, _, hz, hr2, rfl, rfl, by omega, ht2.2⟩
    · rintro δ M1 ⟨ts, z, a5, hz, hr, rfl, rfl, ht2⟩
      exact ⟨trivial, hK _ _ ⟨ts, s2, _, _, _, ks, n + 1, rfl, hn', hs2, rfl, rfl, by have := ht2.1; simp at this; omega, ht2.2⟩⟩
  · rintro δ M1 ⟨ts, s, a3, a4, a5, ks, n, e, hn, hs, rfl, rfl, ht⟩
    refine ⟨trivial, _, _, cnv_frz (i := 1) rfl mput_same, _, rfl, _, rfl, by show 3 ≤ sizeLine; decide, fun st hst => ?_⟩
    rw [mdel_mput hp] at hst ⊢
    exact hq st _ hst ⟨ts, 0, s, ⟨by omega, ht.2⟩, by omega, by omega, hs, mput_same⟩ fun a ha => mput_ne ha
/-! nets beside each other -/
def Out (x p a1 a3 : Addr) : Prop := x ≠ p ∧ x ≠ a1 ∧ x ≠ a3
structure Dj (q b1 b3 p a1 a3 : Addr) : Prop where
  x : Out q p a1 a3
  y : Out b1 p a1 a3
  z : Out b3 p a1 a3
theorem Dj.symm {q b1 b3 p a1 a3} (h : Dj q b1 b3 p a1 a3) : Dj p a1 a3 q b1 b3 := ⟨⟨h.x.1.symm, h.y.1.symm, h.z.1.symm⟩, ⟨h.x.2.1.symm, h.y.2.1.symm, h.z.2.1.symm⟩, ⟨h.x.2.2.symm, h.y.2.2.symm, h.z.2.2.symm⟩⟩
section
variable {AD : Ad} {x p a1 a3 q b1 b3 : Addr} {n m : Nt} {M M' : Mem} {o : MO}
theorem out_of (e : M x = some o) (h1 : M p = none) (h2 : M a1 = none) (h3 : M a3 = none) : Out x p a1 a3 := ⟨fun z => (by rw [z, h1] at e; cases e), fun z => (by rw [z, h2] at e; cases e), fun z => (by rw [z, h3] at e; cases e)⟩
theorem Ls.out {st b} (h : Ls st b M) (h1 : M p = none) (h2 : M a1 = none) (h3 : M a3 = none) : Out st p a1 a3 := ⟨h.ne h1, h.ne h2, h.ne h3⟩
theorem NtAt.dj (B : NtAt AD q b1 b3 m M) (h1 : M p = none) (h2 : M a1 = none) (h3 : M a3 = none) : Dj q b1 b3 p a1 a3 := ⟨out_of B.ins h1 h2 h3, out_of B.pts h1 h2 h3, out_of B.rds h1 h2 h3⟩
theorem NtAt.kpN (B : NtAt AD q b1 b3 m M) (k : KpN p a1 a3 M M') (d : Dj q b1 b3 p a1 a3) : NtAt AD q b1 b3 m M' := ⟨k _ _ d.x B.ins, k _ _ d.y B.pts, k _ _ d.z B.rds, B.ne⟩
theorem NtAt.put (B : NtAt AD p a1 a3 n M) (d : Out x p a1 a3) {u : MO} : NtAt AD p a1 a3 n (mput M x u) := ⟨by rw [mput_ne d.1.symm]; exact B.ins, by rw [mput_ne d.2.1.symm]; exact B.pts, by rw [mput_ne d.2.2.symm]; exact B.rds, B.ne⟩
theorem NtAt.off {st} (B : NtAt AD p a1 a3 n M) (h : Off st M M') (d : Out st p a1 a3) : NtAt AD p a1 a3 n M' := ⟨(h _ d.1.symm).trans B.ins, (h _ d.2.1.symm).trans B.pts, (h _ d.2.2.symm).trans B.rds, B.ne⟩
end
theorem str_at {ns : List Str} {i : Nat} {x : Str} (h : ns[i]? = some x) : atI (ns.map D.str) (i : Int) = some (.str x) := atI_nn (by omega) (by rw [Int.toNat_natCast, List.getElem?_map, h]; rfl)
theorem rat_at {xs : List Rat} {i : Nat} {q : Rat} (h : xs[i]? = some q) : atI (ratsD xs) (i : Int) = some (.rat q) := atI_nn (by omega) (by rw [Int.toNat_natCast]; exact ratsD_get h)
theorem so_app {x y : Str} (h1 : SO x) (h2 : SO y) : SO (x ++ y) := by
  show (x.cps ++ y.cps).all (· < 0x110000) = true
  rw [Array.all_append]
  show (x.cps.all (· < 0x110000) && y.cps.all (· < 0x110000)) = true
  rw [show x.cps.all (· < 0x110000) = true from h1, show y.cps.all (· < 0x110000) = true from h2]; rfl
theorem str_app_inj {x y a b : Str} (hl : a.cps.toList.length = b.cps.toList.length) (e : x ++ a = y ++ b) : x = y ∧ a.cps.toList = b.cps.toList := by
  have e1 : x.cps ++ a.cps = y.cps ++ b.cps := congrArg Str.cps e
  have e2 := congrArg Array.toList e1
  rw [Array.toList_append, Array.toList_append] at e2
  obtain ⟨h1, h2⟩ := List.append_inj' e2 hl
  refine ⟨?_, h2⟩
  cases x; cases y
  exact congrArg Str.mk (Array.toList_inj.mp h1)
theorem erase_nd {α : Type} {l : List α} {j : Nat} {x y : α} (nd : l.Nodup) (e : l[j]? = some x) (h : y ∈ l.eraseIdx j) : y ∈ l ∧ y ≠ x := by
  refine ⟨List.mem_of_mem_eraseIdx h, fun z => ?_⟩
  subst z
  obtain ⟨hj, ej⟩ := List.getElem?_eq_some_iff.mp e
  have el : l = l.take j ++ y :: l.drop (j + 1) := by
    rw [← ej, ← List.drop_eq_getElem_cons hj, List.take_append_drop]
  rw [el] at nd
  rw [List.eraseIdx_eq_take_drop_succ] at h
  obtain ⟨_, n2, n3⟩ := List.nodup_append.mp nd
  rcases List.mem_append.mp h with m | m
  · exact n3 y m y List.mem_cons_self rfl
  · exact (List.nodup_cons.mp n2).1 m
/-! two nets whose sums agree but for a factor -/
theorem Pi.scl {d : Nat} {N X P : Nat → Nat → Rat} {f g : Rat} (h : Pi d N X P) (e : f * g = 1) : Pi d (fun i j => f * N i j) (fun i j => g * X i j) P := by
  refine ⟨fun i j hi hj => by rw [h.ns i j hi hj], fun i j hi hj => by rw [h.xs i j hi hj], h.ps, fun i j hi hj => ?_, fun i j hi hj => ?_, fun i j hi hj => ?_⟩
  · rw [← h.nx i j hi hj]
    exact sum_congr fun k _ => by grind
  · show dt d (P i) (fun k => f * N k j) = f * N i j
    rw [← h.pn i j hi hj]
    unfold dt
    rw [← sum_mulL]; exact sum_congr fun k _ => by grind
  · show dt d (P i) (fun k => g * X k j) = g * X i j
    rw [← h.px i j hi hj]
    unfold dt
    rw [← sum_mulL]; exact sum_congr fun k _ => by grind
theorem scl_inv {d : Nat} {N N' : List (List Rat)} {f g : Rat} (mN : Mt d d N) (mN' : Mt d d N') (sN : transR N d = N) (e : ∀ i j, i < d → j < d → ent N' i j = f * ent N i j) (hf : f * g = 1) : pinvR N' d = scaleM g (pinvR N d) := by
  have mX : Mt d d (pinvR N d) := pinv_mt mN
  have p := (pi_of mN mX sN (pinv_ok mN)).scl hf
  have c := cond_fun mN' (scale_mt (q := g) mX) e (fun i j hi hj => scale_ent (q := g) mX.wid (by rw [mX.len]; exact hi) hj) p
  exact pinv_one mN' (pinv_mt mN') (scale_mt mX) (pinv_ok mN') c
theorem dot_scl (g f : Rat) : ∀ a b : List Rat, dotR (a.map (g * ·)) (b.map (f * ·)) = g * f * dotR a b
  | [], b => by show (0 : Rat) = g * f * 0; grind
  | x :: a, [] => by show (0 : Rat) = g * f * 0; grind
  | x :: a, y :: b => by
    show g * x * (f * y) + dotR (a.map (g * ·)) (b.map (f * ·)) = g * f * (x * y + dotR a b)
    rw [dot_scl g f a b]; grind
theorem dot_sclL (f : Rat) : ∀ a b : List Rat, dotR (a.map (f * ·)) b = f * dotR a b
  | [], b => by show (0 : Rat) = f * 0; grind
  | x :: a, [] => by show (0 : Rat) = f * 0; grind
  | x :: a, y :: b => by
    show f * x * y + dotR (a.map (f * ·)) b = f * (x * y + dotR a b)
    rw [dot_sclL f a b]; grind
structure Scl (f : Rat) (n m : Nt) : Prop where
  pts : m.pts = n.pts
  apx : m.apx = n.apx
  ws : ∀ φ, wsum φ m.rds = f * wsum φ n.rds
section
variable {f : Rat} {n m : Nt}
theorem Scl.w (h : Scl f n m) : m.w = n.w := congrArg List.length h.pts
theorem Scl.inv (h : Scl f n m) {g : Rat} (hf : f * g = 1) : m.inv = scaleM g n.inv := by
  have mm := NtOk.nrm_mt m
  rw [h.w] at mm
  have := scl_inv (NtOk.nrm_mt n) mm (nrm_sym ..) (fun i j hi hj => by
    have e1 : ent m.nrm i j = entR (tsN m.pts m.rds) i j := ent_bld (by rw [h.w]; exact hi) (by rw [h.w]; exact hj)
    have e2 : ent n.nrm i j = entR (tsN n.pts n.rds) i j := ent_bld hi hj
    rw [e1, e2, ent_ws, ent_ws, h.pts, h.ws]) hf
  rw [← h.w] at this
  rw [show n.inv = pinvR n.nrm n.w from rfl, ← h.w]
  exact this
theorem Scl.rgt (h : Scl f n m) : m.rgt = n.rgt.map (f * ·) := by
  have l1 : m.rgt.length = n.pts.length := by rw [show m.rgt.length = m.pts.length from rgt_len .., h.pts]
  have l2 : n.rgt.length = n.pts.length := rgt_len ..
  refine row_ext (by rw [List.length_map, l1, l2]) fun k hk => ?_
  rw [List.length_map] at hk
  rw [gtR_mapQ hk]
  have e1 : gtR m.rgt k = _ := rgt_ws m.pts m.apx m.rds (by rw [h.pts]; omega)
  have e2 : gtR n.rgt k = _ := rgt_ws n.pts n.apx n.rds (by omega)
  rw [e1, e2, h.ws, h.pts, h.apx]
theorem Scl.tot (h : Scl f n m) : m.tot = f * n.tot := by
  show totR m.pts m.apx m.rds = f * totR n.pts n.apx n.rds
  rw [tot_ws, tot_ws, h.ws, h.pts, h.apx]
theorem Scl.app (h : Scl f n m) (hf : f ≠ 0) : applyR m.inv m.rgt = applyR n.inv n.rgt := by
  have e : f * (1 / f) = 1 := by grind
  rw [h.inv e, h.rgt]
  unfold applyR scaleM
  rw [List.map_map]
  refine List.map_congr_left fun r _ => ?_
  show dotR (r.map (1 / f * ·)) (n.rgt.map (f * ·)) = _
  rw [dot_scl]; grind
theorem Scl.hts (h : Scl f n m) (hf : f ≠ 0) : m.hts = n.hts := by
  show mapR2 _ m.apx (applyR m.inv m.rgt) = mapR2 _ n.apx (applyR n.inv n.rgt)
  rw [h.app hf, h.apx]
theorem Scl.sqs (h : Scl f n m) (hf : f ≠ 0) : m.sqs = f * n.sqs := by
  show m.tot - dotR m.rgt (applyR m.inv m.rgt) = f * (n.tot - dotR n.rgt (applyR n.inv n.rgt))
  rw [h.app hf, h.tot, h.rgt, dot_sclL]; grind
end
def sp_law_c14d : DSp := fun ds M Q _ => ∃ ns : List Int, ds = [.scr (dInts ns)] ∧ ns.length ≤ 63 ∧ ∀ M', Q (.bl true) M'
def w_law_c14d (AD : Ad) : DSt :=
  (dSeq (dSet 1 (dCall sp_law_state_87c3 (dCons (dVar 0) dNil)))
  (dSeq (dAsg (dCall (sp_law_net_71f1 AD) (dCons (dVar 1) (dCons (dC (.int 4)) (dCons (dC (.int 7)) dNil)))) (gTuL 3 (gsCons (gNm 7) (gsCons (gNm 8) (gsCons (gNm 9) gsNil)))))
  (dSeq (dSet 2 (dCall sp_law_weight_w (dCons (dVar 1) dNil)))
  (dSeq (dSet 3 (dCB rLstOfR (dCons (dVar 9) dNil)))
  (dSeq (dSet 4 (dMkR AD.nt (sp_Net___init__ AD) dNil))
  (dSeq (dSet 5 (dMkR AD.nt (sp_Net___init__ AD) dNil))
  (dSeq (dFor (dRng1 (dCons (dCB rLen (dCons (dVar 8) dNil)) dNil)) (gNm 6)
  (dSeq (dDrop (dMethC AD.nt "add_point" (sp_Net_add_point_5ee7 AD) noE (dVar 4) (dCons (dOp rIxD (dVar 8) (dVar 6)) (dCons (dOp rIxD (dFld (· = AD.nt) "approximations" (dVar 7)) (dVar 6)) dNil))))
  (dDrop (dMethC AD.nt "add_point" (sp_Net_add_point_5ee7 AD) noE (dVar 5) (dCons (dOp rIxD (dVar 8) (dVar 6)) (dCons (dOp rIxD (dFld (· = AD.nt) "approximations" (dVar 7)) (dVar 6)) dNil))))))
  (dSeq (dFor (dRng1 (dCons (dCB rLen (dCons (dVar 9) dNil)) dNil)) (gNm 6)
  (dSeq (dSet 10 (dPop (dVar 3) (dCons (dCall sp_law_draw_82fd (dCons (dVar 1) (dCons (dCB rLen (dCons (dVar 3) dNil)) dNil))) dNil)))
  (dSeq (dDrop (dMethC AD.nt "add" (sp_Net_add_48dc AD) noE (dVar 4) (dCons (dMkZ AD.rd (sp_Reading___init__ AD) (dCons (dFld (· = AD.rd) "name" (dVar 10)) (dCons (dFld (· = AD.rd) "terms" (dVar 10)) (dCons (dFld (· = AD.rd) "value" (dVar 10)) (dCons (dOp rMul (dFld (· = AD.rd) "weight" (dVar 10)) (dVar 2)) dNil))))) dNil)))
  (dSeq (dDrop (dMethC AD.nt "add" (sp_Net_add_48dc AD) noE (dVar 5) (dCons (dMkZ AD.rd (sp_Reading___init__ AD) (dCons (dOp rAdd (dFld (· = AD.rd) "name" (dVar 10)) (dC (.str "a"))) (dCons (dFld (· = AD.rd) "terms" (dVar 10)) (dCons (dFld (· = AD.rd) "value" (dVar 10)) (dCons (dOp rMul (dFld (· = AD.rd) "weight" (dVar 10)) (dMk (dCons (dC (.int 1)) (dCons (dC (.int 2)) dNil)))) dNil))))) dNil)))
  (dDrop (dMethC AD.nt "add" (sp_Net_add_48dc AD) noE (dVar 5) (dCons (dMkZ AD.rd (sp_Reading___init__ AD) (dCons (dOp rAdd (dFld (· = AD.rd) "name" (dVar 10)) (dC (.str "b"))) (dCons (dFld (· = AD.rd) "terms" (dVar 10)) (dCons (dFld (· = AD.rd) "value" (dVar 10)) (dCons (dOp rMul (dFld (· = AD.rd) "weight" (dVar 10)) (dMk (dCons (dC (.int 1)) (dCons (dC (.int 2)) dNil)))) dNil))))) dNil)))))))
  (dSeq (dIf (dOr (dNot (dTru (dCall sp_law_same_vectors (dCons (dMethC AD.nt "heights" (sp_Net_heights AD) noE (dVar 4) dNil) (dCons (dMethC AD.nt "heights" (sp_Net_heights AD) noE (dVar 7) dNil) dNil))))) (dNot (dTru (dCall sp_law_same_vectors (dCons (dMethC AD.nt "heights" (sp_Net_heights AD) noE (dVar 5) dNil) (dCons (dMethC AD.nt "heights" (sp_Net_heights AD) noE (dVar 7) dNil) dNil))))))
  (dRet (dC (.bl false)))
  dNext)
  (dRet (dAndV (dCall sp_law_same_e380 (dCons (dMethC AD.nt "squares" (sp_Net_squares_0871 AD) noE (dVar 4) dNil) (dCons (dOp rMul (dMethC AD.nt "squares" (sp_Net_squares_0871 AD) noE (dVar 7) dNil) (dVar 2)) dNil))) (dCall sp_law_same_e380 (dCons (dMethC AD.nt "squares" (sp_Net_squares_0871 AD) noE (dVar 5) dNil) (dCons (dMethC AD.nt "squares" (sp_Net_squares_0871 AD) noE (dVar 7) dNil) dNil))))))))))))))
theorem NtOk.btS {n : Nt} (ok : NtOk n) (h5 : n.pts.length ≤ 5) : Bt 100000 n.sqs := by
  have lr : n.rgt.length = n.pts.length := rgt_len ..
  exact (bt_sub ok.btT (dot_bt ok.szR (ok.szH h5) (by omega))).mono (by decide)
theorem add_at {n : Nt} {r : Rdg} (h1 : r.name ∉ n.rds.map Rdg.name) (h2 : ∀ x, x ∈ r.terms → x.1 ∈ n.pts) (h3 : n.rds.length < 24) : naddR n r = .ok (n.addR r) := by
  unfold naddR
  rw [if_neg h1, unk_all h2]
  show (if n.rds.length = 24 then _ else _) = _
  rw [if_neg (by omega)]
theorem addP_at {n : Nt} {x : Str} {q : Rat} (h1 : x ∉ n.pts) (h2 : n.pts.length < 12) : naddP n x q = .ok (n.addP x q) := by
  unfold naddP
  rw [if_neg h1, if_neg (by omega)]
theorem nodup_take {ns : List Str} (nd : ns.Nodup) {i : Nat} {x : Str} (h : ns[i]? = some x) : x ∉ ns.take i := fun m => by
  obtain ⟨hi, ei⟩ := List.getElem?_eq_some_iff.mp h
  obtain ⟨j, hj, ej⟩ := List.getElem_of_mem m
  rw [List.length_take] at hj
  rw [List.getElem_take, ← ei] at ej
  have := (List.getElem_inj nd).mp ej
  omega
theorem half_w {q : Rat} (h0 : 0 < q) (h : CD 28 2048 q) : WOk (q * Rat.divInt 1 2) := ⟨by
  have : (0 : Rat) < Rat.divInt 1 2 := by
    rw [Rat.divInt_eq_div, Rat.div_def]
    exact Rat.mul_pos (Rat.intCast_pos.mpr (by decide)) (Rat.inv_pos.mpr (Rat.intCast_pos.mpr (by decide)))
  exact Rat.mul_pos h0 this, by
  have := (h.mul (cd_div (a := 1) (b := 2) (N := 1) (by decide) (by decide))).mulD 14
  exact this.mono (by decide)⟩
theorem rd_law_c14d (AD : Ad) (ds M Q E) (h : sp_law_c14d ds M Q E) : w_law_c14d AD { nx := fun _ M' => Q .non M', rt := Q } (startD 11 ds) M := by
  obtain ⟨ns, rfl, hl, hq⟩ := h
  refine ⟨_, rfl, ns, rfl, hl, fun st M1 hs1 hL1 hO1 => ?_⟩
  refine ⟨_, rfl, st, 0, 4, 7, rfl, hL1, by decide, by decide, by decide, by decide, by decide, fun p a1 a3 l n M2 B lw hl2 hlp hst hsl hL2 kp2 => ⟨_, rfl, rfl, _, _, rfl, _, _, rfl, _, _, rfl, rfl, ?_⟩⟩
  have ok := lw.ok
  have w2 := lw.w2
  have k7 := lw.few
  refine ⟨_, rfl, st, _, rfl, hL2, by decide, fun f M3 bf cf pf hL3 hO3 => ?_⟩
  have B3 := B.off hO3 hst
  have hl3 := (hO3 l hsl.symm).trans hl2
  refine ⟨_, rfl, _, .inr (.inr ⟨l, rfl, hl3⟩), ite_t fun lf hlf => ?_⟩
  have k4 := KpA.new (o := .lst (n.rds.map (rdgD AD))) hlf
  have B4 := B3.mono k4
  have hL4 := hL3.kpA k4
  have sf : st ≠ lf := hL3.ne hlf
  have f1 : Out lf p a1 a3 := ⟨fun z => (by rw [z, B3.ins] at hlf; cases hlf), fun z => (by rw [z, B3.pts] at hlf; cases hlf), fun z => (by rw [z, B3.rds] at hlf; cases hlf)⟩
  have g0 : l ≠ lf := fun z => by rw [z, hlf] at hl3; cases hl3
  have hl4 := k4 _ _ hl3
  have hf4 : mput M3 lf (.lst (n.rds.map (rdgD AD))) lf = some (.lst (n.rds.map (rdgD AD))) := mput_same
  generalize mput M3 lf (.lst (n.rds.map (rdgD AD))) = M4 at k4 B4 hL4 hf4 hl4
  refine mkNetS fun p1 b1 b3 M5 O5 k5 h1 h2 h3 => ?_
  have B5 := B4.mono k5
  have d1 := B4.dj h1 h2 h3
  have s2 := hL4.out h1 h2 h3
  have f2 := out_of hf4 h1 h2 h3
  have g2 := out_of hl4 h1 h2 h3
  have hl5 := k5 _ _ hl4
  have hL5 := hL4.kpA k5
  have hf5 := k5 _ _ hf4
  refine mkNetS fun p2 c1 c3 M6 T6 k6 h1 h2 h3 => ?_
  have B6 := B5.mono k6
  have O6 := O5.mono k6
  have d2 := B5.dj h1 h2 h3
  have d3 := O5.dj h1 h2 h3
  have s3 := hL5.out h1 h2 h3
  have f3 := out_of hf5 h1 h2 h3
  have g3 := out_of hl5 h1 h2 h3
  have hl6 := k6 _ _ hl5
  have hL6 := hL5.kpA k6
  have hf6 := k6 _ _ hf5
  clear h1 h2 h3 hf5 hf4 hL5 hL4 hlf B4 B5 O5 k4 k5 k6 hl3 hl4 hl5 B3 hL3 hL2 hL1
  refine ⟨_, rfl, _, n.pts.length, rfl, (List.length_map ..).symm, _, rfl, ⟨by omega, by omega⟩, ?_⟩
  rw [rngD_eq]
  refine dLoop_ind (fun rest δ M7 => ∃ (i : Nat) (e6 : Option D), i ≤ n.pts.length ∧ rest = (List.range' i (n.pts.length - i)).map (fun (k : Nat) => D.int (k : Int)) ∧ NtAt AD p a1 a3 n M7 ∧ NtAt AD p1 b1 b3 ⟨n.pts.take i, n.apx.take i, []⟩ M7 ∧ NtAt AD p2 c1 c3 ⟨n.pts.take i, n.apx.take i, []⟩ M7 ∧ NtOk ⟨n.pts.take i, n.apx.take i, []⟩ ∧ Ls st 1100 M7 ∧ M7 lf = some (.lst (n.rds.map (rdgD AD))) ∧ M7 l = some (.lst (n.rds.map (rdgD AD))) ∧ δ = [some (.scr (dInts ns)), some (.ref st), some (.rat f), some (.ref lf), some (.ref p1), some (.ref p2), e6, some (.ref p), some (.lst (n.pts.map D.str)), some (.ref l), none]) ?_ ?_ _ _ _
    ⟨0, none, Nat.zero_le _, rfl, B6, by rw [List.take_zero, List.take_zero]; exact O6, by rw [List.take_zero, List.take_zero]; exact T6, by rw [List.take_zero, List.take_zero]; exact NtOk.nil, hL6.mono (by omega), hf6, hl6, rfl⟩
  · rintro d0 xs δ M7 K hK ⟨i, e6, hi, e, B7, O7, T7, ok7, hL7, hf7, hl7, rfl⟩
    by_cases hlt : i < n.pts.length
    case neg => rw [show n.pts.length - i = 0 by omega] at e; cases e
    rw [show n.pts.length - i = (n.pts.length - (i + 1)) + 1 by omega] at e
    injection e with e1 e2
    subst e1; subst e2
    have hlt2 : i < n.apx.length := by rw [ok.len]; exact hlt
    have ex : n.pts[i]? = some n.pts[i] := List.getElem?_eq_getElem hlt
    have eq : n.apx[i]? = some n.apx[i] := List.getElem?_eq_getElem hlt2
    have hxs := ok.so _ (List.getElem_mem hlt)
    have hqv := ok.ap _ (List.getElem_mem hlt2)
    generalize n.pts[i] = x at ex hxs
    generalize n.apx[i] = q at eq hqv
    have hnot := nodup_take ok.nd ex
    have l12 : (n.pts.take i).length < 12 := by rw [List.length_take]; omega
    have ea := addP_at (n := ⟨n.pts.take i, n.apx.take i, []⟩) (q := q) hnot l12
    have en : Nt.addP ⟨n.pts.take i, n.apx.take i, []⟩ x q = ⟨n.pts.take (i + 1), n.apx.take (i + 1), []⟩ := by
      rw [List.take_add_one, List.take_add_one, ex, eq]; rfl
    have ok8 := ok7.addP (q := q) hnot hxs hqv l12
    rw [en] at ea ok8
    refine ⟨trivial, _, rfl, _, _, .inr ⟨p1, rfl, O7.ins⟩, by decide, _, rfl, _, rfl, i, rfl, _, str_at ex, _, rfl, _, _, _, _, .inr ⟨p, rfl, B7.ins⟩, rfl, rfl, _, rfl, i, rfl, _, rat_at eq, .inr ⟨p1, rfl, O7.ins⟩, p1, b1, b3, _, x, q, rfl, O7, ok7, hxs, ?_⟩
    rw [ea]
    intro M8 O8 k8
    have B8 := B7.kpN k8 d1
    have T8 := T7.kpN k8 d3.symm
    refine ⟨_, rfl, _, _, .inr ⟨p2, rfl, T8.ins⟩, by decide, _, rfl, _, rfl, i, rfl, _, str_at ex, _, rfl, _, _, _, _, .inr ⟨p, rfl, B8.ins⟩, rfl, rfl, _, rfl, i, rfl, _, rat_at eq, .inr ⟨p2, rfl, T8.ins⟩, p2, c1, c3, _, x, q, rfl, T8, ok7, hxs, ?_⟩
    rw [ea]
    intro M9 T9 k9
    exact hK _ _ ⟨i + 1, _, by omega, rfl, B8.kpN k9 d2, O8.kpN k9 d3, T9, ok8, (hL7.kpN k8 s2).kpN k9 s3, k9 _ _ f3 (k8 _ _ f2 hf7), k9 _ _ g3 (k8 _ _ g2 hl7), rfl⟩
  rintro δ M7 ⟨i, e6, hi, e, B7, O7, T7, ok7, hL7, hf7, hl7, rfl⟩
  have hiw : i = n.pts.length := by
    have := congrArg List.length e
    rw [List.length_map, List.length_range'] at this
    have h0 : (0 : Nat) = n.pts.length - i := this
    omega
  subst hiw
  rw [List.take_length, show n.apx.take n.pts.length = n.apx by rw [← ok.len, List.take_length]] at O7 T7 ok7
  clear B6 O6 T6 hL6 hf6 e
  have f0 : f ≠ 0 := by grind
  refine ⟨trivial, ?_⟩
  refine ⟨_, rfl, .ref l, n.rds.length, rfl, ⟨_, hl7, (List.length_map ..).symm⟩, _, rfl, ⟨by omega, by omega⟩, ?_⟩
  rw [rngD_eq]
  have nmL : (n.rds.map Rdg.name).Nodup := by
    rw [lw.nm]
    exact nodup_map_of (fun a b ha hb e => rnm_inj a (by have := (List.mem_range'_1.mp ha).2; omega) b (by have := (List.mem_range'_1.mp hb).2; omega) e) (List.nodup_range' ..)
  have nlen : ∀ r, r ∈ n.rds → r.name.length ≤ 1000 := fun r hr => by
    have := List.mem_map_of_mem (f := Rdg.name) hr
    rw [lw.nm] at this
    obtain ⟨k, hk, e⟩ := List.mem_map.mp this
    rw [← e]; exact rnm_l k (by have := (List.mem_range'_1.mp hk).2; omega)
  refine dLoop_ind (fun rest δ M8 => ∃ (i : Nat) (left : List Rdg) (o t : Nt) (e6 e10 : Option D), i ≤ n.rds.length ∧ rest = (List.range' i (n.rds.length - i)).map (fun (k : Nat) => D.int (k : Int)) ∧ left.length = n.rds.length - i ∧ NtAt AD p a1 a3 n M8 ∧ NtAt AD p1 b1 b3 o M8 ∧ NtAt AD p2 c1 c3 t M8 ∧ NtOk o ∧ NtOk t ∧ (o.pts = n.pts ∧ o.apx = n.apx ∧ o.rds.length = i) ∧ (t.pts = n.pts ∧ t.apx = n.apx ∧ t.rds.length = 2 * i) ∧
      (∀ φ, wsum φ o.rds + f * wsum φ left = f * wsum φ n.rds) ∧ (∀ φ, wsum φ t.rds + wsum φ left = wsum φ n.rds) ∧ (∀ r, r ∈ left → r ∈ n.rds) ∧ (left.map Rdg.name).Nodup ∧ (∀ x, x ∈ left.map Rdg.name → x ∉ o.rds.map Rdg.name) ∧ (∀ y, y ∈ t.rds.map Rdg.name → ∃ x, x ∈ o.rds.map Rdg.name ∧ (y = x ++ "a" ∨ y = x ++ "b")) ∧
      Ls st (1100 + i) M8 ∧ M8 lf = some (.lst (left.map (rdgD AD))) ∧ δ = [some (.scr (dInts ns)), some (.ref st), some (.rat f), some (.ref lf), some (.ref p1), some (.ref p2), e6, some (.ref p), some (.lst (n.pts.map D.str)), some (.ref l), e10]) ?_ ?_ _ _ _
    ⟨0, n.rds, ⟨n.pts, n.apx, []⟩, ⟨n.pts, n.apx, []⟩, _, none, Nat.zero_le _, rfl, rfl, B7, O7, T7, ok7, ok7, ⟨rfl, rfl, rfl⟩, ⟨rfl, rfl, rfl⟩, fun φ => by show 0 + _ = _; grind, fun φ => by show 0 + _ = _; grind, fun r hr => hr, nmL, fun x _ m => (nomatch m), fun y m => (nomatch m), hL7, hf7, rfl⟩
  · clear B7 O7 T7 hL7 hf7 hl7 ok7
    rintro d0 xs δ M8 K hK ⟨i, left, o, t, e6, e10, hi, e, hll, B8, O8, T8, oko, okt, ⟨o1, o2, o3⟩, ⟨t1, t2, t3⟩, wO, wT, hsub, hLn, hA, hT, hL8, hf8, rfl⟩
    by_cases hlt : i < n.rds.length
    case neg => rw [show n.rds.length - i = 0 by omega] at e; cases e
    rw [show n.rds.length - i = (n.rds.length - (i + 1)) + 1 by omega] at e
    injection e with e1 e2
    subst e1; subst e2
    refine ⟨trivial, _, rfl, ⟨lf, _, rfl, hf8⟩, _, rfl, _, rfl, .ref lf, left.length, rfl, ⟨_, hf8, (List.length_map ..).symm⟩, st, _, (left.length : Int), rfl, hL8, by omega, by omega, fun x M9 hx0 hx1 hL9 hO9 => ?_⟩
    obtain ⟨j, rfl⟩ := Int.eq_ofNat_of_zero_le hx0
    have hf9 := (hO9 lf sf.symm).trans hf8
    have hj : j < left.length := by omega
    have er : left[j]? = some left[j] := List.getElem?_eq_getElem hj
    have hrm := hsub _ (List.getElem_mem hj)
    generalize left[j] = r at er hrm
    have rn := ok.ro r hrm
    have rw28 := lw.wt r hrm
    have rsub := (lw.tm r hrm).sub
    refine ⟨lf, _, j, rdgD AD r, rfl, rfl, hf9, by omega, by rw [List.getElem?_map, er]; rfl, ?_⟩
    rw [map_erase]
    have hLe : ∀ x, x ∈ (left.eraseIdx j).map Rdg.name → x ∈ left.map Rdg.name ∧ x ≠ r.name := fun x hx => by
      rw [← map_erase] at hx
      exact erase_nd hLn (by rw [List.getElem?_map, er]; rfl) hx
    have hrL : r.name ∈ left.map Rdg.name := List.mem_map_of_mem (List.mem_of_getElem? er)
    have eL := fun φ => wsum_erase φ er
    have hsub' : ∀ s, s ∈ left.eraseIdx j → s ∈ n.rds := fun s hs => hsub s (List.mem_of_mem_eraseIdx hs)
    have hLn' : ((left.eraseIdx j).map Rdg.name).Nodup := ((List.eraseIdx_sublist left j).map Rdg.name).nodup hLn
    have hll' : (left.eraseIdx j).length = n.rds.length - (i + 1) := by rw [List.length_eraseIdx_of_lt hj]; omega
    generalize left.eraseIdx j = left' at hLe eL hsub' hLn' hll'
    have hL10 := hL9.off (M' := mput M9 lf (.lst (left'.map (rdgD AD)))) (mput_ne sf)
    have B10 := (B8.off hO9 hst).put f1 (u := .lst (left'.map (rdgD AD)))
    have O10 := (O8.off hO9 s2).put f2 (u := .lst (left'.map (rdgD AD)))
    have T10 := (T8.off hO9 s3).put f3 (u := .lst (left'.map (rdgD AD)))
    have hf10 : mput M9 lf (.lst (left'.map (rdgD AD))) lf = _ := mput_same
    generalize mput M9 lf (.lst (left'.map (rdgD AD))) = M10 at hL10 B10 O10 T10 hf10
    refine ⟨_, rfl, _, _, .inr ⟨p1, rfl, O10.ins⟩, by decide, ?_⟩
    refine mkRd (r := ⟨r.name, r.terms, r.value, r.weight * f⟩) (fun Q1 k => ⟨_, rfl, _, _, _, _, .inl rfl, rfl, rfl, _, rfl, _, _, _, _, .inl rfl, rfl, rfl, _, rfl, _, _, _, _, .inl rfl, rfl, rfl, _, rfl, _, _, _, _, .inl rfl, rfl, rfl, _, rfl, rn.w.bt.smW (by decide), bf.smW (by decide), k⟩) ?_
    have rn1 : RdN ⟨r.name, r.terms, r.value, r.weight * f⟩ := ⟨⟨rn.ok.nm, rn.ok.tm, rn.ok.few⟩, rn.nd, rn.cf, ⟨Rat.mul_pos rn.w.pos pf, (rw28.mul cf).mono (by decide)⟩, rn.v⟩
    refine ⟨.inr ⟨p1, rfl, O10.ins⟩, p1, b1, b3, o, _, rfl, O10, oko, by rw [o1]; omega, rn1, ?_⟩
    rw [add_at (n := o) (r := ⟨r.name, r.terms, r.value, r.weight * f⟩) (hA _ hrL) (by rw [o1]; exact rsub) (by omega)]
    intro M11 O11 k11
    have oko' := oko.addR rn1 (by rw [o1]; exact rsub) (by omega)
    have B11 := B10.kpN k11 d1
    have T11 := T10.kpN k11 d3.symm
    have hL11 := hL10.kpN k11 s2
    have hf11 := k11 _ _ f2 hf10
    have halfB : Bt 1 (Rat.divInt 1 2) := bt_div (by decide) (by decide)
    have wh := half_w rn.w.pos rw28
    have soa : SO (r.name ++ "a") := so_app rn.ok.nm (by decide +kernel)
    have sob : SO (r.name ++ "b") := so_app rn.ok.nm (by decide +kernel)
    have la : r.name.length + ("a" : Str).length ≤ sizeLine := sz16 (by have := nlen r hrm; show _ + 1 ≤ _; omega)
    have lb : r.name.length + ("b" : Str).length ≤ sizeLine := sz16 (by have := nlen r hrm; show _ + 1 ≤ _; omega)
    have rna : RdN ⟨r.name ++ "a", r.terms, r.value, r.weight * Rat.divInt 1 2⟩ := ⟨⟨soa, rn.ok.tm, rn.ok.few⟩, rn.nd, rn.cf, wh, rn.v⟩
    have rnb : RdN ⟨r.name ++ "b", r.terms, r.value, r.weight * Rat.divInt 1 2⟩ := ⟨⟨sob, rn.ok.tm, rn.ok.few⟩, rn.nd, rn.cf, wh, rn.v⟩
    have nota : r.name ++ "a" ∉ t.rds.map Rdg.name := fun m => by
      obtain ⟨x, hx, e | e⟩ := hT _ m
      · exact hA _ hrL ((str_app_inj rfl e).1 ▸ hx)
      · exact absurd (str_app_inj (a := "a") (b := "b") rfl e).2 (by decide)
    have notb : r.name ++ "b" ∉ (t.addR ⟨r.name ++ "a", r.terms, r.value, r.weight * Rat.divInt 1 2⟩).rds.map Rdg.name := fun m => by
      have m : r.name ++ "b" ∈ (t.rds ++ [_]).map Rdg.name := m
      rw [List.map_append] at m
      rcases List.mem_append.mp m with m | m
      · obtain ⟨x, hx, e | e⟩ := hT _ m
        · exact absurd (str_app_inj (a := "b") (b := "a") rfl e).2 (by decide)
        · exact hA _ hrL ((str_app_inj rfl e).1 ▸ hx)
      · have e : r.name ++ "b" = r.name ++ "a" := List.mem_singleton.mp m
        exact absurd (str_app_inj (a := "b") (b := "a") rfl e).2 (by decide)
    refine ⟨_, rfl, _, _, .inr ⟨p2, rfl, T11.ins⟩, by decide, ?_⟩
    refine mkRd (r := ⟨r.name ++ "a", r.terms, r.value, r.weight * Rat.divInt 1 2⟩) (fun Q1 k => ⟨_, rfl, _, _, _, _, .inl rfl, rfl, rfl, la, _, rfl, _, _, _, _, .inl rfl, rfl, rfl, _, rfl, _, _, _, _, .inl rfl, rfl, rfl, _, rfl, _, _, _, _, .inl rfl, rfl, rfl, by decide, trivial, rn.w.bt.smW (by decide), halfB.smW (by decide), k⟩) ?_
    refine ⟨.inr ⟨p2, rfl, T11.ins⟩, p2, c1, c3, t, _, rfl, T11, okt, by rw [t1]; omega, rna, ?_⟩
    rw [add_at (n := t) (r := ⟨r.name ++ "a", r.terms, r.value, r.weight * Rat.divInt 1 2⟩) nota (by rw [t1]; exact rsub) (by omega)]
    intro M12 T12 k12
    have okt' := okt.addR rna (by rw [t1]; exact rsub) (by omega)
    have B12 := B11.kpN k12 d2
    have O12 := O11.kpN k12 d3
    have hL12 := hL11.kpN k12 s3
    have hf12 := k12 _ _ f3 hf11
    refine ⟨_, rfl, _, _, .inr ⟨p2, rfl, T12.ins⟩, by decide, ?_⟩
    refine mkRd (r := ⟨r.name ++ "b", r.terms, r.value, r.weight * Rat.divInt 1 2⟩) (fun Q1 k => ⟨_, rfl, _, _, _, _, .inl rfl, rfl, rfl, lb, _, rfl, _, _, _, _, .inl rfl, rfl, rfl, _, rfl, _, _, _, _, .inl rfl, rfl, rfl, _, rfl, _, _, _, _, .inl rfl, rfl, rfl, by decide, trivial, rn.w.bt.smW (by decide), halfB.smW (by decide), k⟩) ?_
    refine ⟨.inr ⟨p2, rfl, T12.ins⟩, p2, c1, c3, _, _, rfl, T12, okt', by show t.pts.length ≤ 5; rw [t1]; omega, rnb, ?_⟩
    have l2 : (t.addR ⟨r.name ++ "a", r.terms, r.value, r.weight * Rat.divInt 1 2⟩).rds.length = 2 * i + 1 := by show (t.rds ++ [_]).length = _; rw [List.length_append, t3]; rfl
    rw [add_at (n := t.addR ⟨r.name ++ "a", r.terms, r.value, r.weight * Rat.divInt 1 2⟩) (r := ⟨r.name ++ "b", r.terms, r.value, r.weight * Rat.divInt 1 2⟩) notb (by show ∀ x, x ∈ r.terms → x.1 ∈ t.pts; rw [t1]; exact rsub) (by omega)]
    intro M13 T13 k13
    have okt'' := okt'.addR rnb (by show ∀ x, x ∈ r.terms → x.1 ∈ t.pts; rw [t1]; exact rsub) (by omega)
    have hh : Rat.divInt 1 2 + Rat.divInt 1 2 = 1 := by rw [Rat.divInt_eq_div]; grind
    refine hK _ _ ⟨i + 1, left', _, _, _, _, by omega, rfl, hll', B12.kpN k13 d2, O12.kpN k13 d3, T13, oko', okt'', ⟨o1, o2, by show (o.rds ++ [_]).length = _; rw [List.length_append, o3]; rfl⟩, ⟨t1, t2, by show ((t.rds ++ [_]) ++ [_]).length = _; rw [List.length_append, List.length_append, t3]; show 2 * i + 1 + 1 = _; omega⟩, fun φ => ?_, fun φ => ?_, hsub', hLn', fun x hx => ?_, fun y hy => ?_, (hL12.kpN k13 s3).mono (by omega), k13 _ _ f3 hf12, rfl⟩
    · have a := wO φ
      have b := eL φ
      show wsum φ (o.rds ++ [_]) + _ = _
      rw [wsum_app]
      show wsum φ o.rds + (r.weight * f * φ r.terms r.value + 0) + f * wsum φ left' = _
      rw [b] at a
      grind
    · have a := wT φ
      have b := eL φ
      show wsum φ ((t.rds ++ [_]) ++ [_]) + _ = _
      rw [wsum_app, wsum_app]
      show wsum φ t.rds + (r.weight * Rat.divInt 1 2 * φ r.terms r.value + 0) + (r.weight * Rat.divInt 1 2 * φ r.terms r.value + 0) + wsum φ left' = _
      rw [b] at a
      generalize Rat.divInt 1 2 = z at hh
      grind
    · show x ∉ (o.rds ++ [_]).map Rdg.name
      rw [List.map_append]
      intro m
      obtain ⟨u1, u2⟩ := hLe x hx
      rcases List.mem_append.mp m with m | m
      · exact hA _ u1 m
      · exact u2 (List.mem_singleton.mp m)
    · have hy : y ∈ ((t.rds ++ [_]) ++ [_]).map Rdg.name := hy
      show ∃ x, x ∈ (o.rds ++ [(⟨r.name, r.terms, r.value, r.weight * f⟩ : Rdg)]).map Rdg.name ∧ (y = x ++ "a" ∨ y = x ++ "b")
      rw [List.map_append] at hy ⊢
      rcases List.mem_append.mp hy with hy | hy
      · rw [List.map_append] at hy
        rcases List.mem_append.mp hy with hy | hy
        · obtain ⟨x, hx, e⟩ := hT y hy
          exact ⟨x, List.mem_append_left _ hx, e⟩
        · exact ⟨r.name, List.mem_append_right _ List.mem_cons_self, .inl (List.mem_singleton.mp hy)⟩
      · exact ⟨r.name, List.mem_append_right _ List.mem_cons_self, .inr (List.mem_singleton.mp hy)⟩
  clear B7 O7 T7 hL7 hf7 hl7 ok7
  rintro δ M8 ⟨i, left, o, t, e6, e10, hi, e, hll, B8, O8, T8, oko, okt, ⟨o1, o2, o3⟩, ⟨t1, t2, t3⟩, wO, wT, hsub, hLn, hA, hT, hL8, hf8, rfl⟩
  have hiw : n.rds.length - i = 0 := by
    have := congrArg List.length e
    rw [List.length_map, List.length_range'] at this
    exact this.symm
  have el : left = [] := List.eq_nil_of_length_eq_zero (by omega)
  subst el
  have sO : Scl f n o := ⟨o1, o2, fun φ => by have := wO φ; show _ = _; rw [← this]; show _ = _ + f * 0; grind⟩
  have sT : Scl 1 n t := ⟨t1, t2, fun φ => by have := wT φ; rw [← this]; show _ = 1 * (_ + 0); grind⟩
  have one0 : (1 : Rat) ≠ 0 := by decide
  have hO5 : o.pts.length ≤ 5 := by rw [o1]; omega
  have hT5 : t.pts.length ≤ 5 := by rw [t1]; omega
  have hN5 : n.pts.length ≤ 5 := by omega
  have lh : n.hts.length ≤ 1000000 := by
    show (mapR2 _ n.apx (applyR n.inv n.rgt)).length ≤ _
    rw [mapR2_len _ _ (by rw [apply_len, (NtOk.inv_mt n).len, ok.len]; rfl), ok.len]; omega
  refine ⟨trivial, ?_⟩
  dsimp only
  refine guard2 (fun Q k => ⟨_, rfl, _, _, .inr ⟨p1, rfl, O8.ins⟩, by decide, .inr ⟨p1, rfl, O8.ins⟩, p1, b1, b3, o, rfl, O8, oko, hO5, _, rfl, _, _, .inr ⟨p, rfl, B8.ins⟩, by decide, .inr ⟨p, rfl, B8.ins⟩, p, a1, a3, n, rfl, B8, ok, hN5, o.hts, n.hts, rfl, lh, true, by rw [decide_eq_true (sO.hts f0)]; rfl, k⟩) (fun Q k => ⟨_, rfl, _, _, .inr ⟨p2, rfl, T8.ins⟩, by decide, .inr ⟨p2, rfl, T8.ins⟩, p2, c1, c3, t, rfl, T8, okt, hT5, _, rfl, _, _, .inr ⟨p, rfl, B8.ins⟩, by decide, .inr ⟨p, rfl, B8.ins⟩, p, a1, a3, n, rfl, B8, ok, hN5, t.hts, n.hts, rfl, lh, true, by rw [decide_eq_true (sT.hts one0)]; rfl, k⟩) ?_
  refine ⟨_, rfl, _, _, .inr ⟨p1, rfl, O8.ins⟩, by decide, .inr ⟨p1, rfl, O8.ins⟩, p1, b1, b3, o, rfl, O8, oko, hO5, _, rfl, _, _, .inr ⟨p, rfl, B8.ins⟩, by decide, .inr ⟨p, rfl, B8.ins⟩, p, a1, a3, n, rfl, B8, ok, hN5, _, rfl, (ok.btS hN5).smW (by decide), bf.smW (by decide), _, _, rfl, true, by rw [decide_eq_true (show o.sqs = n.sqs * f by rw [sO.sqs f0, Rat.mul_comm])], ite_t ?_⟩
  refine ⟨_, rfl, _, _, .inr ⟨p2, rfl, T8.ins⟩, by decide, .inr ⟨p2, rfl, T8.ins⟩, p2, c1, c3, t, rfl, T8, okt, hT5, _, rfl, _, _, .inr ⟨p, rfl, B8.ins⟩, by decide, .inr ⟨p, rfl, B8.ins⟩, p, a1, a3, n, rfl, B8, ok, hN5, _, _, rfl, ?_⟩
  rw [decide_eq_true (show t.sqs = n.sqs by rw [sT.sqs one0]; grind)]
  exact hq _
structure Txt (K : PySem.W.Frag) (mg : Str → Option Value) (CR : Addr) : Prop where
  g_gcd : mg "gcd" = some (.builtin "math.gcd")
  f_isinstance : mg "isinstance" = none
  f_abs : mg "abs" = none
  f_zip : mg "zip" = none
  f_tuple : mg "tuple" = none
  f_len : mg "len" = none
  k_MOST_READINGS : ∃ t, mg "MOST_READINGS" = some (.int 24 t)
  f_range : mg "range" = none
  k_MOST_POINTS : ∃ t, mg "MOST_POINTS" = some (.int 12 t)
  f_int : mg "int" = none
  f_str : mg "str" = none
  f_list : mg "list" = none
structure BkT (K : PySem.W.Frag) (AD : Ad) : Prop where
  rc : Cls K AD.rd
  name : NoAttr K AD.rd "name"
  terms : NoAttr K AD.rd "terms"
  value : NoAttr K AD.rd "value"
  weight : NoAttr K AD.rd "weight"
  nc : Cls K AD.nt
  n_points : NoAttr K AD.nt "points"
  n_approximations : NoAttr K AD.nt "approximations"
  n_readings : NoAttr K AD.nt "readings"
  n_normal : NoAttr K AD.nt "normal"
  n_inverse : NoAttr K AD.nt "inverse"
  n_right : NoAttr K AD.nt "right"
  n_total : NoAttr K AD.nt "total"
structure EkT (P : Program) (w : World) (K : PySem.W.Frag) (mg : Str → Option Value) (base : Heap) (AD : Ad) : Prop where
  dup : ErrT P w K mg base "DuplicateName" AD.dup "name"
  up : ErrT P w K mg base "UnknownPoint" AD.up "name"
  lim : ErrT P w K mg base "LimitReached" AD.lim "what"
section
variable {P : Program} {w : World} {K : PySem.W.Frag} {mg : Str → Option Value} {base : Heap} {CR Z S B f : Addr} {fd : FuncData} {AD : Ad}
theorem sc_Ratio___init__ : FnScope ["self", "top", "bottom", "common"] ["self", "top", "bottom"] (defScope s_Ratio___init__) := ⟨rfl, rfl, rfl, by decide +kernel, rfl, by decide +kernel, by decide +kernel⟩
theorem ok_Ratio___init__ (F : FunD K "__init__" "Ratio.__init__" (defArgs s_Ratio___init__) (defBody s_Ratio___init__) (defScope s_Ratio___init__) [V.int 1] [] f fd) (b : Txt K mg CR) (c : Cls K CR) (nt : NoAttr K CR "top") (nb : NoAttr K CR "bottom") (sk : seerCk K = true) (pt : P.given.tree = none) : FnOk P w K mg base (L2.CX P w) 36 f fd ["self", "top", "bottom"] (lSp K CR (sp_init CR)) :=
  okD F sc_Ratio___init__ (fun cdv A outer s H E hr => (s_cons (s_if (t_cmp (o_eqP hr.units) (dv 2) di)
    (s_one s_never)
    s_nil)
    (s_cons (s_set (i := 3) sc_Ratio___init__.nd (d_gcd b.g_gcd (da_cons (dv 1) (da_cons (dv 2) da_nil))))
    (s_cons (s_if (t_cmp o_lt (dv 2) di)
    (s_one (s_set (i := 3) sc_Ratio___init__.nd (d_un o_negI (dv 3))))
    s_nil)
    (s_cons (s_fld (okC := (· = CR)) (fun C h => by subst h; exact ⟨c, nt⟩) (dv 0) (d_op (o_fdivB (pyR_of sk pt hr rfl sc_Ratio___init__.gen sc_Ratio___init__.co)) (dv 1) (dv 3)))
    (s_one (s_fld (okC := (· = CR)) (fun C h => by subst h; exact ⟨c, nb⟩) (dv 0) (d_op (o_fdivB (pyR_of sk pt hr rfl sc_Ratio___init__.gen sc_Ratio___init__.co)) (dv 2) (dv 3))))))))) (fun ds M Q E h => by repeat (first | (obtain ⟨e, _⟩ := h; exact congrArg List.length e) | (obtain ⟨_, h⟩ := h))) (rd_Ratio___init__ CR)
theorem sc_Ratio___add__ : FnScope ["self", "other"] ["self", "other"] (defScope s_Ratio___add__) := ⟨rfl, rfl, rfl, by decide +kernel, rfl, by decide +kernel, by decide +kernel⟩
theorem ok_Ratio___add__ (F : FunD K "__add__" "Ratio.__add__" (defArgs s_Ratio___add__) (defBody s_Ratio___add__) (defScope s_Ratio___add__) [] [] f fd) (b : Txt K mg CR) (T : RatT0 P w K mg base CR) : FnOk P w K mg base (L2.CX P w) 38 f fd ["self", "other"] (lSp K CR sp_add) :=
  okD F sc_Ratio___add__ (fun cdv A outer s H E hr => (s_one (s_ret (T.ini.d_mk T.g (hr.mono (by decide)) (da_cons (d_op o_addP (d_op o_mulI (d_top T.cls T.nt (dv 0)) (d_bot T.cls T.nb (dv 1))) (d_op o_mulI (d_top T.cls T.nt (dv 1)) (d_bot T.cls T.nb (dv 0)))) (da_cons (d_op o_mulI (d_bot T.cls T.nb (dv 0)) (d_bot T.cls T.nb (dv 1))) da_nil)))))) (fun ds M Q E h => by repeat (first | (obtain ⟨e, _⟩ := h; exact congrArg List.length e) | (obtain ⟨_, h⟩ := h))) rd_Ratio___add__
theorem sc_Ratio___sub__ : FnScope ["self", "other"] ["self", "other"] (defScope s_Ratio___sub__) := ⟨rfl, rfl, rfl, by decide +kernel, rfl, by decide +kernel, by decide +kernel⟩
theorem ok_Ratio___sub__ (F : FunD K "__sub__" "Ratio.__sub__" (defArgs s_Ratio___sub__) (defBody s_Ratio___sub__) (defScope s_Ratio___sub__) [] [] f fd) (b : Txt K mg CR) (T : RatT0 P w K mg base CR) : FnOk P w K mg base (L2.CX P w) 38 f fd ["self", "other"] (lSp K CR sp_sub) :=
  okD F sc_Ratio___sub__ (fun cdv A outer s H E hr => (s_one (s_ret (T.ini.d_mk T.g (hr.mono (by decide)) (da_cons (d_op o_subI (d_op o_mulI (d_top T.cls T.nt (dv 0)) (d_bot T.cls T.nb (dv 1))) (d_op o_mulI (d_top T.cls T.nt (dv 1)) (d_bot T.cls T.nb (dv 0)))) (da_cons (d_op o_mulI (d_bot T.cls T.nb (dv 0)) (d_bot T.cls T.nb (dv 1))) da_nil)))))) (fun ds M Q E h => by repeat (first | (obtain ⟨e, _⟩ := h; exact congrArg List.length e) | (obtain ⟨_, h⟩ := h))) rd_Ratio___sub__
theorem sc_Ratio___mul__ : FnScope ["self", "other"] ["self", "other"] (defScope s_Ratio___mul__) := ⟨rfl, rfl, rfl, by decide +kernel, rfl, by decide +kernel, by decide +kernel⟩
theorem ok_Ratio___mul__ (F : FunD K "__mul__" "Ratio.__mul__" (defArgs s_Ratio___mul__) (defBody s_Ratio___mul__) (defScope s_Ratio___mul__) [] [] f fd) (b : Txt K mg CR) (T : RatT0 P w K mg base CR) : FnOk P w K mg base (L2.CX P w) 38 f fd ["self", "other"] (lSp K CR sp_mul) :=
  okD F sc_Ratio___mul__ (fun cdv A outer s H E hr => (s_one (s_ret (T.ini.d_mk T.g (hr.mono (by decide)) (da_cons (d_op o_mulI (d_top T.cls T.nt (dv 0)) (d_top T.cls T.nt (dv 1))) (da_cons (d_op o_mulI (d_bot T.cls T.nb (dv 0)) (d_bot T.cls T.nb (dv 1))) da_nil)))))) (fun ds M Q E h => by repeat (first | (obtain ⟨e, _⟩ := h; exact congrArg List.length e) | (obtain ⟨_, h⟩ := h))) rd_Ratio___mul__
theorem sc_Ratio___neg__ : FnScope ["self"] ["self"] (defScope s_Ratio___neg__) := ⟨rfl, rfl, rfl, by decide +kernel, rfl, by decide +kernel, by decide +kernel⟩
theorem ok_Ratio___neg__ (F : FunD K "__neg__" "Ratio.__neg__" (defArgs s_Ratio___neg__) (defBody s_Ratio___neg__) (defScope s_Ratio___neg__) [] [] f fd) (b : Txt K mg CR) (T : RatT0 P w K mg base CR) : FnOk P w K mg base (L2.CX P w) 38 f fd ["self"] (lSp K CR sp_neg) :=
  okD F sc_Ratio___neg__ (fun cdv A outer s H E hr => (s_one (s_ret (T.ini.d_mk T.g (hr.mono (by decide)) (da_cons (d_un o_negI (d_top T.cls T.nt (dv 0))) (da_cons (d_bot T.cls T.nb (dv 0)) da_nil)))))) (fun ds M Q E h => by repeat (first | (obtain ⟨e, _⟩ := h; exact congrArg List.length e) | (obtain ⟨_, h⟩ := h))) rd_Ratio___neg__
theorem sc_Ratio___eq__ : FnScope ["self", "other"] ["self", "other"] (defScope s_Ratio___eq__) := ⟨rfl, rfl, rfl, by decide +kernel, rfl, by decide +kernel, by decide +kernel⟩
theorem ok_Ratio___eq__ (F : FunD K "__eq__" "Ratio.__eq__" (defArgs s_Ratio___eq__) (defBody s_Ratio___eq__) (defScope s_Ratio___eq__) [] [] f fd) (b : Txt K mg CR) (T : RatT0 P w K mg base CR) : FnOk P w K mg base (L2.CX P w) 38 f fd ["self", "other"] (lSp K CR sp_eq) :=
  okD F sc_Ratio___eq__ (fun cdv A outer s H E hr => (s_one (s_ret (v_and (T.d_isR b.f_isinstance (dv 1)) (v_and (d_cmp (o_eqP hr.units) (d_top T.cls T.nt (dv 0)) (d_top T.cls T.nt (dv 1))) (v_one (d_cmp (o_eqP hr.units) (d_bot T.cls T.nb (dv 0)) (d_bot T.cls T.nb (dv 1))))))))) (fun ds M Q E h => by repeat (first | (obtain ⟨e, _⟩ := h; exact congrArg List.length e) | (obtain ⟨_, h⟩ := h))) rd_Ratio___eq__
theorem sc_Ratio___lt__ : FnScope ["self", "other"] ["self", "other"] (defScope s_Ratio___lt__) := ⟨rfl, rfl, rfl, by decide +kernel, rfl, by decide +kernel, by decide +kernel⟩
theorem ok_Ratio___lt__ (F : FunD K "__lt__" "Ratio.__lt__" (defArgs s_Ratio___lt__) (defBody s_Ratio___lt__) (defScope s_Ratio___lt__) [] [] f fd) (b : Txt K mg CR) (T : RatT0 P w K mg base CR) : FnOk P w K mg base (L2.CX P w) 38 f fd ["self", "other"] (lSp K CR sp_lt) :=
  okD F sc_Ratio___lt__ (fun cdv A outer s H E hr => (s_one (s_ret (d_cmp o_lt (d_op o_mulI (d_top T.cls T.nt (dv 0)) (d_bot T.cls T.nb (dv 1))) (d_op o_mulI (d_top T.cls T.nt (dv 1)) (d_bot T.cls T.nb (dv 0))))))) (fun ds M Q E h => by repeat (first | (obtain ⟨e, _⟩ := h; exact congrArg List.length e) | (obtain ⟨_, h⟩ := h))) rd_Ratio___lt__
theorem sc_Ratio___le__ : FnScope ["self", "other"] ["self", "other"] (defScope s_Ratio___le__) := ⟨rfl, rfl, rfl, by decide +kernel, rfl, by decide +kernel, by decide +kernel⟩
theorem ok_Ratio___le__ (F : FunD K "__le__" "Ratio.__le__" (defArgs s_Ratio___le__) (defBody s_Ratio___le__) (defScope s_Ratio___le__) [] [] f fd) (b : Txt K mg CR) (T : RatT0 P w K mg base CR) : FnOk P w K mg base (L2.CX P w) 38 f fd ["self", "other"] (lSp K CR sp_le) :=
  okD F sc_Ratio___le__ (fun cdv A outer s H E hr => (s_one (s_ret (d_cmp o_le (d_op o_mulI (d_top T.cls T.nt (dv 0)) (d_bot T.cls T.nb (dv 1))) (d_op o_mulI (d_top T.cls T.nt (dv 1)) (d_bot T.cls T.nb (dv 0))))))) (fun ds M Q E h => by repeat (first | (obtain ⟨e, _⟩ := h; exact congrArg List.length e) | (obtain ⟨_, h⟩ := h))) rd_Ratio___le__
theorem sc_Ratio___gt__ : FnScope ["self", "other"] ["self", "other"] (defScope s_Ratio___gt__) := ⟨rfl, rfl, rfl, by decide +kernel, rfl, by decide +kernel, by decide +kernel⟩
theorem ok_Ratio___gt__ (F : FunD K "__gt__" "Ratio.__gt__" (defArgs s_Ratio___gt__) (defBody s_Ratio___gt__) (defScope s_Ratio___gt__) [] [] f fd) (b : Txt K mg CR) (T : RatT0 P w K mg base CR) : FnOk P w K mg base (L2.CX P w) 38 f fd ["self", "other"] (lSp K CR sp_gt) :=
  okD F sc_Ratio___gt__ (fun cdv A outer s H E hr => (s_one (s_ret (d_cmp o_gt (d_op o_mulI (d_top T.cls T.nt (dv 0)) (d_bot T.cls T.nb (dv 1))) (d_op o_mulI (d_top T.cls T.nt (dv 1)) (d_bot T.cls T.nb (dv 0))))))) (fun ds M Q E h => by repeat (first | (obtain ⟨e, _⟩ := h; exact congrArg List.length e) | (obtain ⟨_, h⟩ := h))) rd_Ratio___gt__
theorem sc_Ratio___ge__ : FnScope ["self", "other"] ["self", "other"] (defScope s_Ratio___ge__) := ⟨rfl, rfl, rfl, by decide +kernel, rfl, by decide +kernel, by decide +kernel⟩
theorem ok_Ratio___ge__ (F : FunD K "__ge__" "Ratio.__ge__" (defArgs s_Ratio___ge__) (defBody s_Ratio___ge__) (defScope s_Ratio___ge__) [] [] f fd) (b : Txt K mg CR) (T : RatT0 P w K mg base CR) : FnOk P w K mg base (L2.CX P w) 38 f fd ["self", "other"] (lSp K CR sp_ge) :=
  okD F sc_Ratio___ge__ (fun cdv A outer s H E hr => (s_one (s_ret (d_cmp o_ge (d_op o_mulI (d_top T.cls T.nt (dv 0)) (d_bot T.cls T.nb (dv 1))) (d_op o_mulI (d_top T.cls T.nt (dv 1)) (d_bot T.cls T.nb (dv 0))))))) (fun ds M Q E h => by repeat (first | (obtain ⟨e, _⟩ := h; exact congrArg List.length e) | (obtain ⟨_, h⟩ := h))) rd_Ratio___ge__
theorem sc_Ratio___abs__ : FnScope ["self"] ["self"] (defScope s_Ratio___abs__) := ⟨rfl, rfl, rfl, by decide +kernel, rfl, by decide +kernel, by decide +kernel⟩
theorem ok_Ratio___abs__ (F : FunD K "__abs__" "Ratio.__abs__" (defArgs s_Ratio___abs__) (defBody s_Ratio___abs__) (defScope s_Ratio___abs__) [] [] f fd) (b : Txt K mg CR) (T : RatT0 P w K mg base CR) : FnOk P w K mg base (L2.CX P w) 38 f fd ["self"] (lSp K CR sp_abs) :=
  okD F sc_Ratio___abs__ (fun cdv A outer s H E hr => (s_one (s_ret (T.ini.d_mk T.g (hr.mono (by decide)) (da_cons (d_B c_absI b.f_abs (da_cons (d_top T.cls T.nt (dv 0)) da_nil)) (da_cons (d_bot T.cls T.nb (dv 0)) da_nil)))))) (fun ds M Q E h => by repeat (first | (obtain ⟨e, _⟩ := h; exact congrArg List.length e) | (obtain ⟨_, h⟩ := h))) rd_Ratio___abs__
theorem sc_Ratio_over_fdb9 : FnScope ["self", "other"] ["self", "other"] (defScope s_Ratio_over_fdb9) := ⟨rfl, rfl, rfl, by decide +kernel, rfl, by decide +kernel, by decide +kernel⟩
theorem ok_Ratio_over_fdb9 (F : FunD K "over" "Ratio.over" (defArgs s_Ratio_over_fdb9) (defBody s_Ratio_over_fdb9) (defScope s_Ratio_over_fdb9) [] [] f fd) (b : Txt K mg CR) (T : RatT0 P w K mg base CR) : FnOk P w K mg base (L2.CX P w) 38 f fd ["self", "other"] (lSp K CR sp_over) :=
  okD F sc_Ratio_over_fdb9 (fun cdv A outer s H E hr => (s_one (s_ret (T.ini.d_mk T.g (hr.mono (by decide)) (da_cons (d_op o_mulI (d_top T.cls T.nt (dv 0)) (d_bot T.cls T.nb (dv 1))) (da_cons (d_op o_mulI (d_bot T.cls T.nb (dv 0)) (d_top T.cls T.nt (dv 1))) da_nil)))))) (fun ds M Q E h => by repeat (first | (obtain ⟨e, _⟩ := h; exact congrArg List.length e) | (obtain ⟨_, h⟩ := h))) rd_Ratio_over_fdb9
theorem sc_DuplicateName___init__ : FnScope ["self", "name"] ["self", "name"] (defScope s_DuplicateName___init__) := ⟨rfl, rfl, rfl, by decide +kernel, rfl, by decide +kernel, by decide +kernel⟩
theorem ok_DuplicateName___init__ {C : Addr} (F : FunD K "__init__" "DuplicateName.__init__" (defArgs s_DuplicateName___init__) (defBody s_DuplicateName___init__) (defScope s_DuplicateName___init__) [] [] f fd) (oc : OexC K C) (no : PySem.W.findIn K (.ref C) "name" = some none) : FnOk P w K mg base (L2.CX P w) 2 f fd ["self", "name"] (spOe C "name") :=
  okOe F sc_DuplicateName___init__ oc no fun cdv A outer s H E => pss_one (ps_ost (L2.pv 0) (L2.pv 1))
theorem sc_UnknownPoint___init__ : FnScope ["self", "name"] ["self", "name"] (defScope s_UnknownPoint___init__) := ⟨rfl, rfl, rfl, by decide +kernel, rfl, by decide +kernel, by decide +kernel⟩
theorem ok_UnknownPoint___init__ {C : Addr} (F : FunD K "__init__" "UnknownPoint.__init__" (defArgs s_UnknownPoint___init__) (defBody s_UnknownPoint___init__) (defScope s_UnknownPoint___init__) [] [] f fd) (oc : OexC K C) (no : PySem.W.findIn K (.ref C) "name" = some none) : FnOk P w K mg base (L2.CX P w) 2 f fd ["self", "name"] (spOe C "name") :=
  okOe F sc_UnknownPoint___init__ oc no fun cdv A outer s H E => pss_one (ps_ost (L2.pv 0) (L2.pv 1))
theorem sc_LimitReached___init__ : FnScope ["self", "what"] ["self", "what"] (defScope s_LimitReached___init__) := ⟨rfl, rfl, rfl, by decide +kernel, rfl, by decide +kernel, by decide +kernel⟩
theorem ok_LimitReached___init__ {C : Addr} (F : FunD K "__init__" "LimitReached.__init__" (defArgs s_LimitReached___init__) (defBody s_LimitReached___init__) (defScope s_LimitReached___init__) [] [] f fd) (oc : OexC K C) (no : PySem.W.findIn K (.ref C) "what" = some none) : FnOk P w K mg base (L2.CX P w) 2 f fd ["self", "what"] (spOe C "what") :=
  okOe F sc_LimitReached___init__ oc no fun cdv A outer s H E => pss_one (ps_ost (L2.pv 0) (L2.pv 1))
theorem sc_dot_w : FnScope ["a", "b", "total", "x", "y"] ["a", "b"] (defScope s_dot_w) := ⟨rfl, rfl, rfl, by decide +kernel, rfl, by decide +kernel, by decide +kernel⟩
theorem ok_dot_w (F : FunD K "dot" "dot" (defArgs s_dot_w) (defBody s_dot_w) (defScope s_dot_w) [] [] f fd) (b : Txt K mg CR) (T : RatT P w K mg base CR) : FnOk P w K mg base (L2.CX P w) 41 f fd ["a", "b"] (lSp K CR sp_dot_w) :=
  okD F sc_dot_w (fun cdv A outer s H E hr => (s_cons (s_set (i := 2) sc_dot_w.nd (T.ini.d_mk T.g (hr.mono (by decide)) (da_cons di da_nil)))
    (s_cons (s_for PassesOwn.never rfl (i_zip b.f_zip (da_cons (dv 0) (da_cons (dv 1) da_nil))) (g_tu rfl (gs_cons (g_nm (i := 3) sc_dot_w.nd) (gs_cons (g_nm (i := 4) sc_dot_w.nd) gs_nil)))
    (s_one (s_set (i := 2) sc_dot_w.nd (d_op (T.o_add hr) (dv 2) (d_op (T.o_mul hr) (dv 3) (dv 4))))))
    (s_one (s_ret (dv 2)))))) (fun ds M Q E h => by repeat (first | (obtain ⟨e, _⟩ := h; exact congrArg List.length e) | (obtain ⟨_, h⟩ := h))) rd_dot_w
theorem sc_apply_w : FnScope ["matrix", "vector", "row"] ["matrix", "vector"] (defScope s_apply_w) := ⟨rfl, rfl, rfl, by decide +kernel, rfl, by decide +kernel, by decide +kernel⟩
theorem ok_apply_w (F : FunD K "apply" "apply" (defArgs s_apply_w) (defBody s_apply_w) (defScope s_apply_w) [] [] f fd) (b : Txt K mg CR) (T : RatT P w K mg base CR) (F_dot_w : Def P w K mg base CR 41 "dot" ["a", "b"] sp_dot_w) : FnOk P w K mg base (L2.CX P w) 42 f fd ["matrix", "vector"] (lSp K CR sp_apply_w) :=
  okD F sc_apply_w (fun cdv A outer s H E hr => (s_one (s_ret (d_Ty c_tuple b.f_tuple (da_cons (d_lc (own := [("row", 2)]) (g := (gName 2)) rfl sc_apply_w.nd (i_it (dv 0)) (by kernel_rfl) (cg_nm (j := 2) (by decide)) (mono_nm (j := 2)) (fun _ _ _ _ _ => (pg_name (i := 2) sc_apply_w.nd rfl (by first | exact Or.inl rfl | exact Or.inr rfl))) (fun _ _ _ _ _ => ts_nil) (fun _ _ _ _ _ => (d_call F_dot_w (hr.mono (by decide)) (da_cons (dv 2) (da_cons (dv 1) da_nil))))) da_nil))))) (fun ds M Q E h => by repeat (first | (obtain ⟨e, _⟩ := h; exact congrArg List.length e) | (obtain ⟨_, h⟩ := h))) rd_apply_w
theorem sc_Net_squares_0871 : FnScope ["self"] ["self"] (defScope s_Net_squares_0871) := ⟨rfl, rfl, rfl, by decide +kernel, rfl, by decide +kernel, by decide +kernel⟩
theorem ok_Net_squares_0871 (F : FunD K "squares" "Net.squares" (defArgs s_Net_squares_0871) (defBody s_Net_squares_0871) (defScope s_Net_squares_0871) [] [] f fd) (b : Txt K mg CR) (T : RatT P w K mg base CR) (BK : BkT K AD) (EK : EkT P w K mg base AD) (F_dot_w : Def P w K mg base CR 41 "dot" ["a", "b"] sp_dot_w) (F_apply_w : Def P w K mg base CR 42 "apply" ["matrix", "vector"] sp_apply_w) : FnOk P w K mg base (L2.CX P w) 43 f fd ["self"] (lSp K CR (sp_Net_squares_0871 AD)) :=
  okD F sc_Net_squares_0871 (fun cdv A outer s H E hr => (s_one (s_ret (d_op (T.o_sub hr) (d_fld (okC := (· = AD.nt)) (fun C h => by subst h; exact ⟨BK.nc, BK.n_total⟩) (dv 0)) (d_call F_dot_w (hr.mono (by decide)) (da_cons (d_fld (okC := (· = AD.nt)) (fun C h => by subst h; exact ⟨BK.nc, BK.n_right⟩) (dv 0)) (da_cons (d_call F_apply_w (hr.mono (by decide)) (da_cons (d_fld (okC := (· = AD.nt)) (fun C h => by subst h; exact ⟨BK.nc, BK.n_inverse⟩) (dv 0)) (da_cons (d_fld (okC := (· = AD.nt)) (fun C h => by subst h; exact ⟨BK.nc, BK.n_right⟩) (dv 0)) da_nil))) da_nil))))))) (fun ds M Q E h => by repeat (first | (obtain ⟨e, _⟩ := h; exact congrArg List.length e) | (obtain ⟨_, h⟩ := h))) (rd_Net_squares_0871 AD)
theorem sc_plus : FnScope ["a", "b", "x", "y"] ["a", "b"] (defScope s_plus) := ⟨rfl, rfl, rfl, by decide +kernel, rfl, by decide +kernel, by decide +kernel⟩
theorem ok_plus (F : FunD K "plus" "plus" (defArgs s_plus) (defBody s_plus) (defScope s_plus) [] [] f fd) (b : Txt K mg CR) (T : RatT P w K mg base CR) : FnOk P w K mg base (L2.CX P w) 41 f fd ["a", "b"] (lSp K CR sp_plus) :=
  okD F sc_plus (fun cdv A outer s H E hr => (s_one (s_ret (d_Ty c_tuple b.f_tuple (da_cons (d_lc (own := [("x", 2), ("y", 3)]) (g := (gTup K 2 (gCons (gName 2) (gCons (gName 3) (gNil))))) rfl sc_plus.nd (i_zip b.f_zip (da_cons (dv 0) (da_cons (dv 1) da_nil))) (by kernel_rfl) (cg_tu (cgs_cons (cg_nm (j := 2) (by decide)) (mono_nm (j := 2)) (cgs_cons (cg_nm (j := 3) (by decide)) (mono_nm (j := 3)) cgs_nil mono_nil) (mono_cons (mono_nm (j := 3)) mono_nil))) (mono_tu (mono_cons (mono_nm (j := 2)) (mono_cons (mono_nm (j := 3)) mono_nil))) (fun _ _ _ _ _ => (pg_tup rfl (pgs_cons (pg_name (i := 2) sc_plus.nd rfl (by first | exact Or.inl rfl | exact Or.inr rfl)) (pgs_cons (pg_name (i := 3) sc_plus.nd rfl (by first | exact Or.inl rfl | exact Or.inr rfl)) pgs_nil)))) (fun _ _ _ _ _ => ts_nil) (fun _ _ _ _ _ => (d_op (T.o_add hr) (dv 2) (dv 3)))) da_nil))))) (fun ds M Q E h => by repeat (first | (obtain ⟨e, _⟩ := h; exact congrArg List.length e) | (obtain ⟨_, h⟩ := h))) rd_plus
theorem sc_Net_heights : FnScope ["self"] ["self"] (defScope s_Net_heights) := ⟨rfl, rfl, rfl, by decide +kernel, rfl, by decide +kernel, by decide +kernel⟩
theorem ok_Net_heights (F : FunD K "heights" "Net.heights" (defArgs s_Net_heights) (defBody s_Net_heights) (defScope s_Net_heights) [] [] f fd) (b : Txt K mg CR) (T : RatT P w K mg base CR) (BK : BkT K AD) (EK : EkT P w K mg base AD) (F_plus : Def P w K mg base CR 41 "plus" ["a", "b"] sp_plus) (F_apply_w : Def P w K mg base CR 42 "apply" ["matrix", "vector"] sp_apply_w) : FnOk P w K mg base (L2.CX P w) 43 f fd ["self"] (lSp K CR (sp_Net_heights AD)) :=
  okD F sc_Net_heights (fun cdv A outer s H E hr => (s_one (s_ret (d_call F_plus (hr.mono (by decide)) (da_cons (d_fld (okC := (· = AD.nt)) (fun C h => by subst h; exact ⟨BK.nc, BK.n_approximations⟩) (dv 0)) (da_cons (d_call F_apply_w (hr.mono (by decide)) (da_cons (d_fld (okC := (· = AD.nt)) (fun C h => by subst h; exact ⟨BK.nc, BK.n_inverse⟩) (dv 0)) (da_cons (d_fld (okC := (· = AD.nt)) (fun C h => by subst h; exact ⟨BK.nc, BK.n_right⟩) (dv 0)) da_nil))) da_nil)))))) (fun ds M Q E h => by repeat (first | (obtain ⟨e, _⟩ := h; exact congrArg List.length e) | (obtain ⟨_, h⟩ := h))) (rd_Net_heights AD)
theorem sc_Reading___init__ : FnScope ["self", "name", "terms", "value", "weight"] ["self", "name", "terms", "value", "weight"] (defScope s_Reading___init__) := ⟨rfl, rfl, rfl, by decide +kernel, rfl, by decide +kernel, by decide +kernel⟩
theorem ok_Reading___init__ (F : FunD K "__init__" "Reading.__init__" (defArgs s_Reading___init__) (defBody s_Reading___init__) (defScope s_Reading___init__) [] [] f fd) (b : Txt K mg CR) (T : RatT P w K mg base CR) (BK : BkT K AD) (EK : EkT P w K mg base AD) : FnOk P w K mg base (L2.CX P w) 41 f fd ["self", "name", "terms", "value", "weight"] (lSp K CR (sp_Reading___init__ AD)) :=
  okD F sc_Reading___init__ (fun cdv A outer s H E hr => (s_cons (s_fld (okC := (· = AD.rd)) (fun C h => by subst h; exact ⟨BK.rc, BK.name⟩) (dv 0) (dv 1))
    (s_cons (s_fld (okC := (· = AD.rd)) (fun C h => by subst h; exact ⟨BK.rc, BK.terms⟩) (dv 0) (dv 2))
    (s_cons (s_fld (okC := (· = AD.rd)) (fun C h => by subst h; exact ⟨BK.rc, BK.value⟩) (dv 0) (dv 3))
    (s_one (s_fld (okC := (· = AD.rd)) (fun C h => by subst h; exact ⟨BK.rc, BK.weight⟩) (dv 0) (dv 4))))))) (fun ds M Q E h => by repeat (first | (obtain ⟨e, _⟩ := h; exact congrArg List.length e) | (obtain ⟨_, h⟩ := h))) (rd_Reading___init__ AD)
theorem sc_Net_row : FnScope ["self", "reading", "found", "name", "coefficient", "_"] ["self", "reading"] (defScope s_Net_row) := ⟨rfl, rfl, rfl, by decide +kernel, rfl, by decide +kernel, by decide +kernel⟩
theorem ok_Net_row (F : FunD K "row" "Net.row" (defArgs s_Net_row) (defBody s_Net_row) (defScope s_Net_row) [] [] f fd) (b : Txt K mg CR) (T : RatT P w K mg base CR) (BK : BkT K AD) (EK : EkT P w K mg base AD) : FnOk P w K mg base (L2.CX P w) 41 f fd ["self", "reading"] (lSp K CR (sp_Net_row AD)) :=
  okD F sc_Net_row (fun cdv A outer s H E hr => (s_cons (s_setLcR (i := 2) (own := [("_", 5)]) (g := (gName 5)) rfl sc_Net_row.nd (i_it (d_fld (okC := (· = AD.nt)) (fun C h => by subst h; exact ⟨BK.nc, BK.n_points⟩) (dv 0))) (by kernel_rfl) (cg_nm (j := 5) (by decide)) (mono_nm (j := 5)) (fun _ _ _ _ _ => (pg_name (i := 5) sc_Net_row.nd rfl (by first | exact Or.inl rfl | exact Or.inr rfl))) (fun _ _ _ _ _ => ts_nil) (fun _ _ _ _ _ => (T.ini.d_mk T.g (hr.mono (by decide)) (da_cons di da_nil))) (sw_true rfl rfl rfl (by kernel_rfl)))
    (s_cons (s_for PassesOwn.never rfl (i_it (d_fld (okC := (· = AD.rd)) (fun C h => by subst h; exact ⟨BK.rc, BK.terms⟩) (dv 1))) (g_tu rfl (gs_cons (g_nm (i := 3) sc_Net_row.nd) (gs_cons (g_nm (i := 4) sc_Net_row.nd) gs_nil)))
    (s_one (s_asg (T.ini.d_mk T.g (hr.mono (by decide)) (da_cons (dv 4) da_nil)) (g_sb (dv 2) (d_idx (pe_bm PySem.F.plainAttrs_list PySem.F.slot_list_index PySem.F.type_list_index mt_index (d_fld (okC := (· = AD.nt)) (fun C h => by subst h; exact ⟨BK.nc, BK.n_points⟩) (dv 0)) (da_cons (dv 3) da_nil)))))))
    (s_one (s_ret (d_Ty c_tuple b.f_tuple (da_cons (dv 2) da_nil))))))) (fun ds M Q E h => by repeat (first | (obtain ⟨e, _⟩ := h; exact congrArg List.length e) | (obtain ⟨_, h⟩ := h))) (rd_Net_row AD)
theorem sc_scale : FnScope ["factor", "a", "x"] ["factor", "a"] (defScope s_scale) := ⟨rfl, rfl, rfl, by decide +kernel, rfl, by decide +kernel, by decide +kernel⟩
theorem ok_scale (F : FunD K "scale" "scale" (defArgs s_scale) (defBody s_scale) (defScope s_scale) [] [] f fd) (b : Txt K mg CR) (T : RatT P w K mg base CR) : FnOk P w K mg base (L2.CX P w) 41 f fd ["factor", "a"] (lSp K CR sp_scale) :=
  okD F sc_scale (fun cdv A outer s H E hr => (s_one (s_ret (d_Ty c_tuple b.f_tuple (da_cons (d_lc (own := [("x", 2)]) (g := (gName 2)) rfl sc_scale.nd (i_it (dv 1)) (by kernel_rfl) (cg_nm (j := 2) (by decide)) (mono_nm (j := 2)) (fun _ _ _ _ _ => (pg_name (i := 2) sc_scale.nd rfl (by first | exact Or.inl rfl | exact Or.inr rfl))) (fun _ _ _ _ _ => ts_nil) (fun _ _ _ _ _ => (d_op (T.o_mul hr) (dv 0) (dv 2)))) da_nil))))) (fun ds M Q E h => by repeat (first | (obtain ⟨e, _⟩ := h; exact congrArg List.length e) | (obtain ⟨_, h⟩ := h))) rd_scale
theorem sc_sum_of : FnScope ["first", "second", "one", "other"] ["first", "second"] (defScope s_sum_of) := ⟨rfl, rfl, rfl, by decide +kernel, rfl, by decide +kernel, by decide +kernel⟩
theorem ok_sum_of (F : FunD K "sum_of" "sum_of" (defArgs s_sum_of) (defBody s_sum_of) (defScope s_sum_of) [] [] f fd) (b : Txt K mg CR) (T : RatT P w K mg base CR) (F_plus : Def P w K mg base CR 41 "plus" ["a", "b"] sp_plus) : FnOk P w K mg base (L2.CX P w) 42 f fd ["first", "second"] (lSp K CR sp_sum_of) :=
  okD F sc_sum_of (fun cdv A outer s H E hr => (s_one (s_ret (d_Ty c_tuple b.f_tuple (da_cons (d_lc (own := [("one", 2), ("other", 3)]) (g := (gTup K 2 (gCons (gName 2) (gCons (gName 3) (gNil))))) rfl sc_sum_of.nd (i_zip b.f_zip (da_cons (dv 0) (da_cons (dv 1) da_nil))) (by kernel_rfl) (cg_tu (cgs_cons (cg_nm (j := 2) (by decide)) (mono_nm (j := 2)) (cgs_cons (cg_nm (j := 3) (by decide)) (mono_nm (j := 3)) cgs_nil mono_nil) (mono_cons (mono_nm (j := 3)) mono_nil))) (mono_tu (mono_cons (mono_nm (j := 2)) (mono_cons (mono_nm (j := 3)) mono_nil))) (fun _ _ _ _ _ => (pg_tup rfl (pgs_cons (pg_name (i := 2) sc_sum_of.nd rfl (by first | exact Or.inl rfl | exact Or.inr rfl)) (pgs_cons (pg_name (i := 3) sc_sum_of.nd rfl (by first | exact Or.inl rfl | exact Or.inr rfl)) pgs_nil)))) (fun _ _ _ _ _ => ts_nil) (fun _ _ _ _ _ => (d_call F_plus (hr.mono (by decide)) (da_cons (dv 2) (da_cons (dv 3) da_nil))))) da_nil))))) (fun ds M Q E h => by repeat (first | (obtain ⟨e, _⟩ := h; exact congrArg List.length e) | (obtain ⟨_, h⟩ := h))) rd_sum_of
theorem sc_scaled : FnScope ["factor", "matrix", "row"] ["factor", "matrix"] (defScope s_scaled) := ⟨rfl, rfl, rfl, by decide +kernel, rfl, by decide +kernel, by decide +kernel⟩
theorem ok_scaled (F : FunD K "scaled" "scaled" (defArgs s_scaled) (defBody s_scaled) (defScope s_scaled) [] [] f fd) (b : Txt K mg CR) (T : RatT P w K mg base CR) (F_scale : Def P w K mg base CR 41 "scale" ["factor", "a"] sp_scale) : FnOk P w K mg base (L2.CX P w) 42 f fd ["factor", "matrix"] (lSp K CR sp_scaled) :=
  okD F sc_scaled (fun cdv A outer s H E hr => (s_one (s_ret (d_Ty c_tuple b.f_tuple (da_cons (d_lc (own := [("row", 2)]) (g := (gName 2)) rfl sc_scaled.nd (i_it (dv 1)) (by kernel_rfl) (cg_nm (j := 2) (by decide)) (mono_nm (j := 2)) (fun _ _ _ _ _ => (pg_name (i := 2) sc_scaled.nd rfl (by first | exact Or.inl rfl | exact Or.inr rfl))) (fun _ _ _ _ _ => ts_nil) (fun _ _ _ _ _ => (d_call F_scale (hr.mono (by decide)) (da_cons (dv 0) (da_cons (dv 2) da_nil))))) da_nil))))) (fun ds M Q E h => by repeat (first | (obtain ⟨e, _⟩ := h; exact congrArg List.length e) | (obtain ⟨_, h⟩ := h))) rd_scaled
theorem sc_outer : FnScope ["a", "b", "x"] ["a", "b"] (defScope s_outer) := ⟨rfl, rfl, rfl, by decide +kernel, rfl, by decide +kernel, by decide +kernel⟩
theorem ok_outer (F : FunD K "outer" "outer" (defArgs s_outer) (defBody s_outer) (defScope s_outer) [] [] f fd) (b : Txt K mg CR) (T : RatT P w K mg base CR) (F_scale : Def P w K mg base CR 41 "scale" ["factor", "a"] sp_scale) : FnOk P w K mg base (L2.CX P w) 42 f fd ["a", "b"] (lSp K CR sp_outer) :=
  okD F sc_outer (fun cdv A outer s H E hr => (s_one (s_ret (d_Ty c_tuple b.f_tuple (da_cons (d_lc (own := [("x", 2)]) (g := (gName 2)) rfl sc_outer.nd (i_it (dv 0)) (by kernel_rfl) (cg_nm (j := 2) (by decide)) (mono_nm (j := 2)) (fun _ _ _ _ _ => (pg_name (i := 2) sc_outer.nd rfl (by first | exact Or.inl rfl | exact Or.inr rfl))) (fun _ _ _ _ _ => ts_nil) (fun _ _ _ _ _ => (d_call F_scale (hr.mono (by decide)) (da_cons (dv 2) (da_cons (dv 1) da_nil))))) da_nil))))) (fun ds M Q E h => by repeat (first | (obtain ⟨e, _⟩ := h; exact congrArg List.length e) | (obtain ⟨_, h⟩ := h))) rd_outer
theorem sc_add_term : FnScope ["matrix", "row", "weight"] ["matrix", "row", "weight"] (defScope s_add_term) := ⟨rfl, rfl, rfl, by decide +kernel, rfl, by decide +kernel, by decide +kernel⟩
theorem ok_add_term (F : FunD K "add_term" "add_term" (defArgs s_add_term) (defBody s_add_term) (defScope s_add_term) [] [] f fd) (b : Txt K mg CR) (T : RatT P w K mg base CR) (F_sum_of : Def P w K mg base CR 42 "sum_of" ["first", "second"] sp_sum_of) (F_scaled : Def P w K mg base CR 42 "scaled" ["factor", "matrix"] sp_scaled) (F_outer : Def P w K mg base CR 42 "outer" ["a", "b"] sp_outer) : FnOk P w K mg base (L2.CX P w) 43 f fd ["matrix", "row", "weight"] (lSp K CR sp_add_term) :=
  okD F sc_add_term (fun cdv A outer s H E hr => (s_one (s_ret (d_call F_sum_of (hr.mono (by decide)) (da_cons (dv 0) (da_cons (d_call F_scaled (hr.mono (by decide)) (da_cons (dv 2) (da_cons (d_call F_outer (hr.mono (by decide)) (da_cons (dv 1) (da_cons (dv 1) da_nil))) da_nil))) da_nil)))))) (fun ds M Q E h => by repeat (first | (obtain ⟨e, _⟩ := h; exact congrArg List.length e) | (obtain ⟨_, h⟩ := h))) rd_add_term
theorem sc_Net_tally : FnScope ["self", "reading", "weight", "row", "shift"] ["self", "reading", "weight"] (defScope s_Net_tally) := ⟨rfl, rfl, rfl, by decide +kernel, rfl, by decide +kernel, by decide +kernel⟩
theorem ok_Net_tally (F : FunD K "tally" "Net.tally" (defArgs s_Net_tally) (defBody s_Net_tally) (defScope s_Net_tally) [] [] f fd) (b : Txt K mg CR) (T : RatT P w K mg base CR) (BK : BkT K AD) (EK : EkT P w K mg base AD) (M_Net_row : MethC P w K mg base CR 41 AD.nt "row" ["self", "reading"] (sp_Net_row AD)) (F_plus : Def P w K mg base CR 41 "plus" ["a", "b"] sp_plus) (F_scale : Def P w K mg base CR 41 "scale" ["factor", "a"] sp_scale) (F_add_term : Def P w K mg base CR 43 "add_term" ["matrix", "row", "weight"] sp_add_term) (F_dot_w : Def P w K mg base CR 41 "dot" ["a", "b"] sp_dot_w) : FnOk P w K mg base (L2.CX P w) 44 f fd ["self", "reading", "weight"] (lSp K CR (sp_Net_tally AD)) :=
  okD F sc_Net_tally (fun cdv A outer s H E hr => (s_cons (s_set (i := 3) sc_Net_tally.nd (d_methC M_Net_row hr takes0 (dv 0) (da_cons (dv 1) da_nil)))
    (s_cons (s_set (i := 4) sc_Net_tally.nd (d_op (T.o_sub hr) (d_fld (okC := (· = AD.rd)) (fun C h => by subst h; exact ⟨BK.rc, BK.value⟩) (dv 1)) (d_call F_dot_w (hr.mono (by decide)) (da_cons (dv 3) (da_cons (d_fld (okC := (· = AD.nt)) (fun C h => by subst h; exact ⟨BK.nc, BK.n_approximations⟩) (dv 0)) da_nil)))))
    (s_cons (s_fld (okC := (· = AD.nt)) (fun C h => by subst h; exact ⟨BK.nc, BK.n_normal⟩) (dv 0) (d_call F_add_term (hr.mono (by decide)) (da_cons (d_fld (okC := (· = AD.nt)) (fun C h => by subst h; exact ⟨BK.nc, BK.n_normal⟩) (dv 0)) (da_cons (dv 3) (da_cons (dv 2) da_nil)))))
    (s_cons (s_fld (okC := (· = AD.nt)) (fun C h => by subst h; exact ⟨BK.nc, BK.n_right⟩) (dv 0) (d_call F_plus (hr.mono (by decide)) (da_cons (d_fld (okC := (· = AD.nt)) (fun C h => by subst h; exact ⟨BK.nc, BK.n_right⟩) (dv 0)) (da_cons (d_call F_scale (hr.mono (by decide)) (da_cons (d_op (T.o_mul hr) (dv 2) (dv 4)) (da_cons (dv 3) da_nil))) da_nil))))
    (s_one (s_fld (okC := (· = AD.nt)) (fun C h => by subst h; exact ⟨BK.nc, BK.n_total⟩) (dv 0) (d_op (T.o_add hr) (d_fld (okC := (· = AD.nt)) (fun C h => by subst h; exact ⟨BK.nc, BK.n_total⟩) (dv 0)) (d_op (T.o_mul hr) (d_op (T.o_mul hr) (dv 2) (dv 4)) (dv 4)))))))))) (fun ds M Q E h => by repeat (first | (obtain ⟨e, _⟩ := h; exact congrArg List.length e) | (obtain ⟨_, h⟩ := h))) (rd_Net_tally AD)
theorem sc_is_zero : FnScope ["a", "x"] ["a"] (defScope s_is_zero) := ⟨rfl, rfl, rfl, by decide +kernel, rfl, by decide +kernel, by decide +kernel⟩
theorem ok_is_zero (F : FunD K "is_zero" "is_zero" (defArgs s_is_zero) (defBody s_is_zero) (defScope s_is_zero) [] [] f fd) (b : Txt K mg CR) (T : RatT P w K mg base CR) : FnOk P w K mg base (L2.CX P w) 41 f fd ["a"] (lSp K CR sp_is_zero) :=
  okD F sc_is_zero (fun cdv A outer s H E hr => (s_cons (s_for PassesOwn.never rfl (i_it (dv 0)) (g_nm (i := 1) sc_is_zero.nd)
    (s_one (s_if (t_cmp (T.o_ne hr) (d_top T.cls T.nt (dv 1)) di)
    (s_one (s_ret db))
    s_nil)))
    (s_one (s_ret db)))) (fun ds M Q E h => by repeat (first | (obtain ⟨e, _⟩ := h; exact congrArg List.length e) | (obtain ⟨_, h⟩ := h))) rd_is_zero
theorem sc_minus : FnScope ["a", "b", "x", "y"] ["a", "b"] (defScope s_minus) := ⟨rfl, rfl, rfl, by decide +kernel, rfl, by decide +kernel, by decide +kernel⟩
theorem ok_minus (F : FunD K "minus" "minus" (defArgs s_minus) (defBody s_minus) (defScope s_minus) [] [] f fd) (b : Txt K mg CR) (T : RatT P w K mg base CR) : FnOk P w K mg base (L2.CX P w) 41 f fd ["a", "b"] (lSp K CR sp_minus) :=
  okD F sc_minus (fun cdv A outer s H E hr => (s_one (s_ret (d_Ty c_tuple b.f_tuple (da_cons (d_lc (own := [("x", 2), ("y", 3)]) (g := (gTup K 2 (gCons (gName 2) (gCons (gName 3) (gNil))))) rfl sc_minus.nd (i_zip b.f_zip (da_cons (dv 0) (da_cons (dv 1) da_nil))) (by kernel_rfl) (cg_tu (cgs_cons (cg_nm (j := 2) (by decide)) (mono_nm (j := 2)) (cgs_cons (cg_nm (j := 3) (by decide)) (mono_nm (j := 3)) cgs_nil mono_nil) (mono_cons (mono_nm (j := 3)) mono_nil))) (mono_tu (mono_cons (mono_nm (j := 2)) (mono_cons (mono_nm (j := 3)) mono_nil))) (fun _ _ _ _ _ => (pg_tup rfl (pgs_cons (pg_name (i := 2) sc_minus.nd rfl (by first | exact Or.inl rfl | exact Or.inr rfl)) (pgs_cons (pg_name (i := 3) sc_minus.nd rfl (by first | exact Or.inl rfl | exact Or.inr rfl)) pgs_nil)))) (fun _ _ _ _ _ => ts_nil) (fun _ _ _ _ _ => (d_op (T.o_sub hr) (dv 2) (dv 3)))) da_nil))))) (fun ds M Q E h => by repeat (first | (obtain ⟨e, _⟩ := h; exact congrArg List.length e) | (obtain ⟨_, h⟩ := h))) rd_minus
theorem sc_with_added_b : FnScope ["matrix", "inverse", "row", "weight", "image", "rest", "share", "way", "found", "factor"] ["matrix", "inverse", "row", "weight"] (defScope s_with_added_b) := ⟨rfl, rfl, rfl, by decide +kernel, rfl, by decide +kernel, by decide +kernel⟩
theorem ok_with_added_b (F : FunD K "with_added" "with_added" (defArgs s_with_added_b) (defBody s_with_added_b) (defScope s_with_added_b) [] [] f fd) (b : Txt K mg CR) (T : RatT P w K mg base CR) (OV : MethOk P w K mg base CR "over" ["self", "other"] sp_over) (F_sum_of : Def P w K mg base CR 42 "sum_of" ["first", "second"] sp_sum_of) (F_scaled : Def P w K mg base CR 42 "scaled" ["factor", "matrix"] sp_scaled) (F_outer : Def P w K mg base CR 42 "outer" ["a", "b"] sp_outer) (F_scale : Def P w K mg base CR 41 "scale" ["factor", "a"] sp_scale) (F_dot_w : Def P w K mg base CR 41 "dot" ["a", "b"] sp_dot_w) (F_is_zero : Def P w K mg base CR 41 "is_zero" ["a"] sp_is_zero) (F_minus : Def P w K mg base CR 41 "minus" ["a", "b"] sp_minus) (F_apply_w : Def P w K mg base CR 42 "apply" ["matrix", "vector"] sp_apply_w) : FnOk P w K mg base (L2.CX P w) 43 f fd ["matrix", "inverse", "row", "weight"] (lSp K CR sp_with_added_b) :=
  okD F sc_with_added_b (fun cdv A outer s H E hr => (s_cons (s_set (i := 4) sc_with_added_b.nd (d_call F_apply_w (hr.mono (by decide)) (da_cons (dv 1) (da_cons (dv 2) da_nil))))
    (s_cons (s_set (i := 5) sc_with_added_b.nd (d_call F_minus (hr.mono (by decide)) (da_cons (dv 2) (da_cons (d_call F_apply_w (hr.mono (by decide)) (da_cons (dv 0) (da_cons (dv 4) da_nil))) da_nil))))
    (s_cons (s_set (i := 6) sc_with_added_b.nd (d_call F_dot_w (hr.mono (by decide)) (da_cons (dv 2) (da_cons (dv 4) da_nil))))
    (s_cons (s_if (t_tru (d_call F_is_zero (hr.mono (by decide)) (da_cons (dv 5) da_nil)))
    (s_cons (s_set (i := 9) sc_with_added_b.nd (d_meth OV T hr (dv 3) (da_cons (d_op (T.o_add hr) (T.ini.d_mk T.g (hr.mono (by decide)) (da_cons di da_nil)) (d_op (T.o_mul hr) (dv 3) (dv 6))) da_nil)))
    (s_one (s_ret (d_call F_sum_of (hr.mono (by decide)) (da_cons (dv 1) (da_cons (d_call F_scaled (hr.mono (by decide)) (da_cons (d_un (T.o_neg hr) (dv 9)) (da_cons (d_call F_outer (hr.mono (by decide)) (da_cons (dv 4) (da_cons (dv 4) da_nil))) da_nil))) da_nil))))))
    s_nil)
    (s_cons (s_set (i := 7) sc_with_added_b.nd (d_call F_scale (hr.mono (by decide)) (da_cons (d_meth OV T hr (T.ini.d_mk T.g (hr.mono (by decide)) (da_cons di da_nil)) (da_cons (d_call F_dot_w (hr.mono (by decide)) (da_cons (dv 5) (da_cons (dv 5) da_nil))) da_nil)) (da_cons (dv 5) da_nil))))
    (s_cons (s_set (i := 8) sc_with_added_b.nd (d_call F_sum_of (hr.mono (by decide)) (da_cons (dv 1) (da_cons (d_call F_scaled (hr.mono (by decide)) (da_cons (T.ini.d_mk T.g (hr.mono (by decide)) (da_cons (d_un (T.o_neg hr) di) da_nil)) (da_cons (d_call F_outer (hr.mono (by decide)) (da_cons (dv 7) (da_cons (dv 4) da_nil))) da_nil))) da_nil))))
    (s_cons (s_set (i := 8) sc_with_added_b.nd (d_call F_sum_of (hr.mono (by decide)) (da_cons (dv 8) (da_cons (d_call F_scaled (hr.mono (by decide)) (da_cons (T.ini.d_mk T.g (hr.mono (by decide)) (da_cons (d_un (T.o_neg hr) di) da_nil)) (da_cons (d_call F_outer (hr.mono (by decide)) (da_cons (dv 4) (da_cons (dv 7) da_nil))) da_nil))) da_nil))))
    (s_one (s_ret (d_call F_sum_of (hr.mono (by decide)) (da_cons (dv 8) (da_cons (d_call F_scaled (hr.mono (by decide)) (da_cons (d_op (T.o_add hr) (d_meth OV T hr (T.ini.d_mk T.g (hr.mono (by decide)) (da_cons di da_nil)) (da_cons (dv 3) da_nil)) (dv 6)) (da_cons (d_call F_outer (hr.mono (by decide)) (da_cons (dv 7) (da_cons (dv 7) da_nil))) da_nil))) da_nil))))))))))))) (fun ds M Q E h => by repeat (first | (obtain ⟨e, _⟩ := h; exact congrArg List.length e) | (obtain ⟨_, h⟩ := h))) rd_with_added_b
theorem sc_Net_put : FnScope ["self", "reading"] ["self", "reading"] (defScope s_Net_put) := ⟨rfl, rfl, rfl, by decide +kernel, rfl, by decide +kernel, by decide +kernel⟩
theorem ok_Net_put (F : FunD K "put" "Net.put" (defArgs s_Net_put) (defBody s_Net_put) (defScope s_Net_put) [] [] f fd) (b : Txt K mg CR) (T : RatT P w K mg base CR) (BK : BkT K AD) (EK : EkT P w K mg base AD) (M_Net_tally : MethC P w K mg base CR 44 AD.nt "tally" ["self", "reading", "weight"] (sp_Net_tally AD)) (M_Net_row : MethC P w K mg base CR 41 AD.nt "row" ["self", "reading"] (sp_Net_row AD)) (F_with_added_b : Def P w K mg base CR 43 "with_added" ["matrix", "inverse", "row", "weight"] sp_with_added_b) : FnOk P w K mg base (L2.CX P w) 45 f fd ["self", "reading"] (lSp K CR (sp_Net_put AD)) :=
  okD F sc_Net_put (fun cdv A outer s H E hr => (s_cons (s_fld (okC := (· = AD.nt)) (fun C h => by subst h; exact ⟨BK.nc, BK.n_inverse⟩) (dv 0) (d_call F_with_added_b (hr.mono (by decide)) (da_cons (d_fld (okC := (· = AD.nt)) (fun C h => by subst h; exact ⟨BK.nc, BK.n_normal⟩) (dv 0)) (da_cons (d_fld (okC := (· = AD.nt)) (fun C h => by subst h; exact ⟨BK.nc, BK.n_inverse⟩) (dv 0)) (da_cons (d_methC M_Net_row hr takes0 (dv 0) (da_cons (dv 1) da_nil)) (da_cons (d_fld (okC := (· = AD.rd)) (fun C h => by subst h; exact ⟨BK.rc, BK.weight⟩) (dv 1)) da_nil))))))
    (s_one (s_expr (d_methC M_Net_tally hr takes0 (dv 0) (da_cons (dv 1) (da_cons (d_fld (okC := (· = AD.rd)) (fun C h => by subst h; exact ⟨BK.rc, BK.weight⟩) (dv 1)) da_nil))))))) (fun ds M Q E h => by repeat (first | (obtain ⟨e, _⟩ := h; exact congrArg List.length e) | (obtain ⟨_, h⟩ := h))) (rd_Net_put AD)
theorem sc_Net_add_48dc : FnScope ["self", "reading", "other", "name", "_"] ["self", "reading"] (defScope s_Net_add_48dc) := ⟨rfl, rfl, rfl, by decide +kernel, rfl, by decide +kernel, by decide +kernel⟩
theorem ok_Net_add_48dc (F : FunD K "add" "Net.add" (defArgs s_Net_add_48dc) (defBody s_Net_add_48dc) (defScope s_Net_add_48dc) [] [] f fd) (b : Txt K mg CR) (T : RatT P w K mg base CR) (BK : BkT K AD) (EK : EkT P w K mg base AD) (M_Net_put : MethC P w K mg base CR 45 AD.nt "put" ["self", "reading"] (sp_Net_put AD)) : FnOk P w K mg base (L2.CX P w) 46 f fd ["self", "reading"] (lSp K CR (sp_Net_add_48dc AD)) :=
  okDX F sc_Net_add_48dc (fun cdv A outer s H E E1 W hr tk => (s_cons (s_for (passes_of rfl) rfl (i_it (d_fld (okC := (· = AD.nt)) (fun C h => by subst h; exact ⟨BK.nc, BK.n_readings⟩) (dv 0))) (g_nm (i := 2) sc_Net_add_48dc.nd)
    (s_one (s_if (t_cmp (T.o_eq hr) (d_fld (okC := (· = AD.rd)) (fun C h => by subst h; exact ⟨BK.rc, BK.name⟩) (dv 2)) (d_fld (okC := (· = AD.rd)) (fun C h => by subst h; exact ⟨BK.rc, BK.name⟩) (dv 1)))
    (s_one (s_raiseF EK.dup tk hr (d_fld (okC := (· = AD.rd)) (fun C h => by subst h; exact ⟨BK.rc, BK.name⟩) (dv 1))))
    s_nil)))
    (s_cons (s_for (passes_of rfl) rfl (i_it (d_fld (okC := (· = AD.rd)) (fun C h => by subst h; exact ⟨BK.rc, BK.terms⟩) (dv 1))) (g_tu rfl (gs_cons (g_nm (i := 3) sc_Net_add_48dc.nd) (gs_cons (g_nm (i := 4) sc_Net_add_48dc.nd) gs_nil)))
    (s_one (s_if (t_cmp (o_notInM (hu65 hr)) (dv 3) (d_fld (okC := (· = AD.nt)) (fun C h => by subst h; exact ⟨BK.nc, BK.n_points⟩) (dv 0)))
    (s_one (s_raiseF EK.up tk hr (dv 3)))
    s_nil)))
    (s_cons (s_if (t_cmp (T.o_eq hr) (d_B c_len b.f_len (da_cons (d_fld (okC := (· = AD.nt)) (fun C h => by subst h; exact ⟨BK.nc, BK.n_readings⟩) (dv 0)) da_nil)) (d_kint b.k_MOST_READINGS))
    (s_one (s_raiseF EK.lim tk hr ds))
    s_nil)
    (s_cons (s_expr (d_methC M_Net_put hr tk (dv 0) (da_cons (dv 1) da_nil)))
    (s_one (s_expr (d_app (pe_bm PySem.F.plainAttrs_list PySem.F.slot_list_append PySem.F.type_list_append mt_append (d_fld (okC := (· = AD.nt)) (fun C h => by subst h; exact ⟨BK.nc, BK.n_readings⟩) (dv 0)) (da_cons (dv 1) da_nil)))))))))) (fun ds M Q E h => by repeat (first | (obtain ⟨e, _⟩ := h; exact congrArg List.length e) | (obtain ⟨_, h⟩ := h))) (rd_Net_add_48dc AD)
theorem sc_widened : FnScope ["matrix", "rows", "row", "_"] ["matrix"] (defScope s_widened) := ⟨rfl, rfl, rfl, by decide +kernel, rfl, by decide +kernel, by decide +kernel⟩
theorem ok_widened (F : FunD K "widened" "widened" (defArgs s_widened) (defBody s_widened) (defScope s_widened) [] [] f fd) (b : Txt K mg CR) (T : RatT P w K mg base CR) : FnOk P w K mg base (L2.CX P w) 41 f fd ["matrix"] (lSp K CR sp_widened) :=
  okD F sc_widened (fun cdv A outer s H E hr => (s_cons (s_setLcR (i := 1) (own := [("row", 2)]) (g := (gName 2)) rfl sc_widened.nd (i_it (dv 0)) (by kernel_rfl) (cg_nm (j := 2) (by decide)) (mono_nm (j := 2)) (fun _ _ _ _ _ => (pg_name (i := 2) sc_widened.nd rfl (by first | exact Or.inl rfl | exact Or.inr rfl))) (fun _ _ _ _ _ => ts_nil) (fun _ _ _ _ _ => (d_op o_catT (dv 2) (d_tup (da_cons (T.ini.d_mk T.g (hr.mono (by decide)) (da_cons di da_nil)) da_nil)))) (sw_true rfl rfl rfl (by kernel_rfl)))
    (s_cons (s_expr (d_app (pe_bm PySem.F.plainAttrs_list PySem.F.slot_list_append PySem.F.type_list_append mt_append (dv 1) (da_cons (d_Ty c_tuple b.f_tuple (da_cons (d_lc (own := [("_", 3)]) (g := (gName 3)) rfl sc_widened.nd (i_rng1 b.f_range (da_cons (d_op (T.o_add hr) (d_B c_len b.f_len (da_cons (dv 0) da_nil)) di) da_nil)) (by kernel_rfl) (cg_nm (j := 3) (by decide)) (mono_nm (j := 3)) (fun _ _ _ _ _ => (pg_name (i := 3) sc_widened.nd rfl (by first | exact Or.inl rfl | exact Or.inr rfl))) (fun _ _ _ _ _ => ts_nil) (fun _ _ _ _ _ => (T.ini.d_mk T.g (hr.mono (by decide)) (da_cons di da_nil)))) da_nil)) da_nil))))
    (s_one (s_ret (d_Ty c_tuple b.f_tuple (da_cons (dv 1) da_nil))))))) (fun ds M Q E h => by repeat (first | (obtain ⟨e, _⟩ := h; exact congrArg List.length e) | (obtain ⟨_, h⟩ := h))) rd_widened
theorem sc_Net_add_point_5ee7 : FnScope ["self", "name", "approximation"] ["self", "name", "approximation"] (defScope s_Net_add_point_5ee7) := ⟨rfl, rfl, rfl, by decide +kernel, rfl, by decide +kernel, by decide +kernel⟩
theorem ok_Net_add_point_5ee7 (F : FunD K "add_point" "Net.add_point" (defArgs s_Net_add_point_5ee7) (defBody s_Net_add_point_5ee7) (defScope s_Net_add_point_5ee7) [] [] f fd) (b : Txt K mg CR) (T : RatT P w K mg base CR) (BK : BkT K AD) (EK : EkT P w K mg base AD) (F_widened : Def P w K mg base CR 41 "widened" ["matrix"] sp_widened) : FnOk P w K mg base (L2.CX P w) 42 f fd ["self", "name", "approximation"] (lSp K CR (sp_Net_add_point_5ee7 AD)) :=
  okDX F sc_Net_add_point_5ee7 (fun cdv A outer s H E E1 W hr tk => (s_cons (s_if (t_cmp (o_inM (hu65 hr)) (dv 1) (d_fld (okC := (· = AD.nt)) (fun C h => by subst h; exact ⟨BK.nc, BK.n_points⟩) (dv 0)))
    (s_one (s_raiseF EK.dup tk hr (dv 1)))
    s_nil)
    (s_cons (s_if (t_cmp (T.o_eq hr) (d_B c_len b.f_len (da_cons (d_fld (okC := (· = AD.nt)) (fun C h => by subst h; exact ⟨BK.nc, BK.n_points⟩) (dv 0)) da_nil)) (d_kint b.k_MOST_POINTS))
    (s_one (s_raiseF EK.lim tk hr ds))
    s_nil)
    (s_cons (s_expr (d_app (pe_bm PySem.F.plainAttrs_list PySem.F.slot_list_append PySem.F.type_list_append mt_append (d_fld (okC := (· = AD.nt)) (fun C h => by subst h; exact ⟨BK.nc, BK.n_points⟩) (dv 0)) (da_cons (dv 1) da_nil))))
    (s_cons (s_fld (okC := (· = AD.nt)) (fun C h => by subst h; exact ⟨BK.nc, BK.n_approximations⟩) (dv 0) (d_op o_catT (d_fld (okC := (· = AD.nt)) (fun C h => by subst h; exact ⟨BK.nc, BK.n_approximations⟩) (dv 0)) (d_tup (da_cons (dv 2) da_nil))))
    (s_cons (s_fld (okC := (· = AD.nt)) (fun C h => by subst h; exact ⟨BK.nc, BK.n_normal⟩) (dv 0) (d_call F_widened (hr.mono (by decide)) (da_cons (d_fld (okC := (· = AD.nt)) (fun C h => by subst h; exact ⟨BK.nc, BK.n_normal⟩) (dv 0)) da_nil)))
    (s_cons (s_fld (okC := (· = AD.nt)) (fun C h => by subst h; exact ⟨BK.nc, BK.n_inverse⟩) (dv 0) (d_call F_widened (hr.mono (by decide)) (da_cons (d_fld (okC := (· = AD.nt)) (fun C h => by subst h; exact ⟨BK.nc, BK.n_inverse⟩) (dv 0)) da_nil)))
    (s_one (s_fld (okC := (· = AD.nt)) (fun C h => by subst h; exact ⟨BK.nc, BK.n_right⟩) (dv 0) (d_op o_catT (d_fld (okC := (· = AD.nt)) (fun C h => by subst h; exact ⟨BK.nc, BK.n_right⟩) (dv 0)) (d_tup (da_cons (T.ini.d_mk T.g (hr.mono (by decide)) (da_cons di da_nil)) da_nil)))))))))))) (fun ds M Q E h => by repeat (first | (obtain ⟨e, _⟩ := h; exact congrArg List.length e) | (obtain ⟨_, h⟩ := h))) (rd_Net_add_point_5ee7 AD)
theorem sc_Net___init__ : FnScope ["self"] ["self"] (defScope s_Net___init__) := ⟨rfl, rfl, rfl, by decide +kernel, rfl, by decide +kernel, by decide +kernel⟩
theorem ok_Net___init__ (F : FunD K "__init__" "Net.__init__" (defArgs s_Net___init__) (defBody s_Net___init__) (defScope s_Net___init__) [] [] f fd) (b : Txt K mg CR) (T : RatT P w K mg base CR) (BK : BkT K AD) (EK : EkT P w K mg base AD) : FnOk P w K mg base (L2.CX P w) 41 f fd ["self"] (lSp K CR (sp_Net___init__ AD)) :=
  okD F sc_Net___init__ (fun cdv A outer s H E hr => (s_cons (s_fld (okC := (· = AD.nt)) (fun C h => by subst h; exact ⟨BK.nc, BK.n_points⟩) (dv 0) (d_lstR da_nil))
    (s_cons (s_fld (okC := (· = AD.nt)) (fun C h => by subst h; exact ⟨BK.nc, BK.n_approximations⟩) (dv 0) (d_tup da_nil))
    (s_cons (s_fld (okC := (· = AD.nt)) (fun C h => by subst h; exact ⟨BK.nc, BK.n_readings⟩) (dv 0) (d_lstR da_nil))
    (s_cons (s_fld (okC := (· = AD.nt)) (fun C h => by subst h; exact ⟨BK.nc, BK.n_normal⟩) (dv 0) (d_tup da_nil))
    (s_cons (s_fld (okC := (· = AD.nt)) (fun C h => by subst h; exact ⟨BK.nc, BK.n_inverse⟩) (dv 0) (d_tup da_nil))
    (s_cons (s_fld (okC := (· = AD.nt)) (fun C h => by subst h; exact ⟨BK.nc, BK.n_right⟩) (dv 0) (d_tup da_nil))
    (s_one (s_fld (okC := (· = AD.nt)) (fun C h => by subst h; exact ⟨BK.nc, BK.n_total⟩) (dv 0) (T.ini.d_mk T.g (hr.mono (by decide)) (da_cons di da_nil))))))))))) (fun ds M Q E h => by repeat (first | (obtain ⟨e, _⟩ := h; exact congrArg List.length e) | (obtain ⟨_, h⟩ := h))) (rd_Net___init__ AD)
theorem sc_law_same_e380 : FnScope ["_law_first", "_law_second"] ["_law_first", "_law_second"] (defScope s_law_same_e380) := ⟨rfl, rfl, rfl, by decide +kernel, rfl, by decide +kernel, by decide +kernel⟩
theorem ok_law_same_e380 (F : FunD K "_law_same" "_law_same" (defArgs s_law_same_e380) (defBody s_law_same_e380) (defScope s_law_same_e380) [] [] f fd) (b : Txt K mg CR) (T : RatT P w K mg base CR) : FnOk P w K mg base (L2.CX P w) 41 f fd ["_law_first", "_law_second"] (lSp K CR sp_law_same_e380) :=
  okD F sc_law_same_e380 (fun cdv A outer s H E hr => (s_cons (s_if (t_bool (w_or (t_not (t_tru (T.d_isR b.f_isinstance (dv 0)))) (w_or1 (t_not (t_tru (T.d_isR b.f_isinstance (dv 1)))))))
    (s_one (s_ret db))
    s_nil)
    (s_one (s_ret (v_and (d_cmp (T.o_eq hr) (d_top T.cls T.nt (dv 0)) (d_top T.cls T.nt (dv 1))) (v_one (d_cmp (T.o_eq hr) (d_bot T.cls T.nb (dv 0)) (d_bot T.cls T.nb (dv 1))))))))) (fun ds M Q E h => by repeat (first | (obtain ⟨e, _⟩ := h; exact congrArg List.length e) | (obtain ⟨_, h⟩ := h))) rd_law_same_e380
theorem sc_law_same_vectors : FnScope ["_law_first", "_law_second", "_law_k"] ["_law_first", "_law_second"] (defScope s_law_same_vectors) := ⟨rfl, rfl, rfl, by decide +kernel, rfl, by decide +kernel, by decide +kernel⟩
theorem ok_law_same_vectors (F : FunD K "_law_same_vectors" "_law_same_vectors" (defArgs s_law_same_vectors) (defBody s_law_same_vectors) (defScope s_law_same_vectors) [] [] f fd) (b : Txt K mg CR) (T : RatT P w K mg base CR) (F_law_same_e380 : Def P w K mg base CR 41 "_law_same" ["_law_first", "_law_second"] sp_law_same_e380) : FnOk P w K mg base (L2.CX P w) 42 f fd ["_law_first", "_law_second"] (lSp K CR sp_law_same_vectors) :=
  okD F sc_law_same_vectors (fun cdv A outer s H E hr => (s_cons (s_if (t_bool (w_or (t_not (t_tru (d_B c_isi b.f_isinstance (da_cons (dv 0) (da_cons (d_ty b.f_tuple) da_nil))))) (w_or1 (t_cmp (T.o_ne hr) (d_B c_len b.f_len (da_cons (dv 0) da_nil)) (d_B c_len b.f_len (da_cons (dv 1) da_nil))))))
    (s_one (s_ret db))
    s_nil)
    (s_cons (s_for PassesOwn.never rfl (i_rng1 b.f_range (da_cons (d_B c_len b.f_len (da_cons (dv 1) da_nil)) da_nil)) (g_nm (i := 2) sc_law_same_vectors.nd)
    (s_one (s_if (t_not (t_tru (d_call F_law_same_e380 (hr.mono (by decide)) (da_cons (d_ix (dv 0) (dv 2)) (da_cons (d_ix (dv 1) (dv 2)) da_nil)))))
    (s_one (s_ret db))
    s_nil)))
    (s_one (s_ret db))))) (fun ds M Q E h => by repeat (first | (obtain ⟨e, _⟩ := h; exact congrArg List.length e) | (obtain ⟨_, h⟩ := h))) rd_law_same_vectors
theorem sc_law_draw_82fd : FnScope ["_law_state_here", "_law_many", "_law_at", "_law_digits"] ["_law_state_here", "_law_many"] (defScope s_law_draw_82fd) := ⟨rfl, rfl, rfl, by decide +kernel, rfl, by decide +kernel, by decide +kernel⟩
theorem ok_law_draw_82fd (F : FunD K "_law_draw" "_law_draw" (defArgs s_law_draw_82fd) (defBody s_law_draw_82fd) (defScope s_law_draw_82fd) [] [] f fd) (b : Txt K mg CR) (T : RatT P w K mg base CR) : FnOk P w K mg base (L2.CX P w) 41 f fd ["_law_state_here", "_law_many"] (lSp K CR sp_law_draw_82fd) :=
  okD F sc_law_draw_82fd (fun cdv A outer s H E hr => (s_cons (s_set (i := 2) sc_law_draw_82fd.nd (d_ix (dv 0) di))
    (s_cons (s_asg (d_op o_addP (dv 2) di) (g_sb (dv 0) di))
    (s_cons (s_set (i := 3) sc_law_draw_82fd.nd (d_ix (dv 0) di))
    (s_cons (s_if (t_cmp o_lt (dv 2) (d_B c_len b.f_len (da_cons (dv 3) da_nil)))
    (s_one (s_ret (d_op o_mod (d_Ty c_int b.f_int (da_cons (d_ix (dv 3) (dv 2)) da_nil)) (dv 1))))
    s_nil)
    (s_cons (s_asg (d_op o_mod (d_Ty c_int b.f_int (da_cons (d_op o_addP (d_op o_addP (d_op o_mulI (d_ix (dv 0) di) di) (d_op o_mulI (dv 2) di)) di) da_nil)) di) (g_sb (dv 0) di))
    (s_one (s_ret (d_op o_mod (d_Ty c_int b.f_int (da_cons (d_op o_fdiv (d_ix (dv 0) di) di) da_nil)) (dv 1)))))))))) (fun ds M Q E h => by repeat (first | (obtain ⟨e, _⟩ := h; exact congrArg List.length e) | (obtain ⟨_, h⟩ := h))) rd_law_draw_82fd
theorem sc_law_weight_w : FnScope ["_law_state_here"] ["_law_state_here"] (defScope s_law_weight_w) := ⟨rfl, rfl, rfl, by decide +kernel, rfl, by decide +kernel, by decide +kernel⟩
theorem ok_law_weight_w (F : FunD K "_law_weight" "_law_weight" (defArgs s_law_weight_w) (defBody s_law_weight_w) (defScope s_law_weight_w) [] [] f fd) (b : Txt K mg CR) (T : RatT P w K mg base CR) (F_law_draw_82fd : Def P w K mg base CR 41 "_law_draw" ["_law_state_here", "_law_many"] sp_law_draw_82fd) : FnOk P w K mg base (L2.CX P w) 42 f fd ["_law_state_here"] (lSp K CR sp_law_weight_w) :=
  okD F sc_law_weight_w (fun cdv A outer s H E hr => (s_one (s_ret (d_ix (d_tup (da_cons (T.ini.d_mk T.g (hr.mono (by decide)) (da_cons di da_nil)) (da_cons (T.ini.d_mk T.g (hr.mono (by decide)) (da_cons di da_nil)) (da_cons (T.ini.d_mk T.g (hr.mono (by decide)) (da_cons di (da_cons di da_nil))) (da_cons (T.ini.d_mk T.g (hr.mono (by decide)) (da_cons di (da_cons di da_nil))) (da_cons (T.ini.d_mk T.g (hr.mono (by decide)) (da_cons (d_op (T.o_add hr) di (d_call F_law_draw_82fd (hr.mono (by decide)) (da_cons (dv 0) (da_cons di da_nil)))) (da_cons di da_nil))) da_nil)))))) (d_call F_law_draw_82fd (hr.mono (by decide)) (da_cons (dv 0) (da_cons di da_nil))))))) (fun ds M Q E h => by repeat (first | (obtain ⟨e, _⟩ := h; exact congrArg List.length e) | (obtain ⟨_, h⟩ := h))) rd_law_weight_w
theorem sc_law_whole : FnScope ["_law_state_here", "_law_pick"] ["_law_state_here"] (defScope s_law_whole) := ⟨rfl, rfl, rfl, by decide +kernel, rfl, by decide +kernel, by decide +kernel⟩
theorem ok_law_whole (F : FunD K "_law_whole" "_law_whole" (defArgs s_law_whole) (defBody s_law_whole) (defScope s_law_whole) [] [] f fd) (b : Txt K mg CR) (T : RatT P w K mg base CR) (F_law_draw_82fd : Def P w K mg base CR 41 "_law_draw" ["_law_state_here", "_law_many"] sp_law_draw_82fd) : FnOk P w K mg base (L2.CX P w) 42 f fd ["_law_state_here"] (lSp K CR sp_law_whole) :=
  okD F sc_law_whole (fun cdv A outer s H E hr => (s_cons (s_set (i := 1) sc_law_whole.nd (d_call F_law_draw_82fd (hr.mono (by decide)) (da_cons (dv 0) (da_cons di da_nil))))
    (s_cons (s_if (t_cmp o_lt (dv 1) di)
    (s_one (s_ret (d_op o_subI (d_call F_law_draw_82fd (hr.mono (by decide)) (da_cons (dv 0) (da_cons di da_nil))) di)))
    s_nil)
    (s_cons (s_if (t_cmp (o_eqP hr.units) (dv 1) di)
    (s_one (s_ret di))
    s_nil)
    (s_cons (s_if (t_cmp (o_eqP hr.units) (dv 1) di)
    (s_one (s_ret (d_op o_subI (d_op o_addP (d_op o_mulI (d_call F_law_draw_82fd (hr.mono (by decide)) (da_cons (dv 0) (da_cons di da_nil))) di) (d_call F_law_draw_82fd (hr.mono (by decide)) (da_cons (dv 0) (da_cons di da_nil)))) di)))
    s_nil)
    (s_one (s_ret (d_op o_subI (d_call F_law_draw_82fd (hr.mono (by decide)) (da_cons (dv 0) (da_cons di da_nil))) di)))))))) (fun ds M Q E h => by repeat (first | (obtain ⟨e, _⟩ := h; exact congrArg List.length e) | (obtain ⟨_, h⟩ := h))) rd_law_whole
theorem sc_law_ratio_0f72 : FnScope ["_law_state_here", "_law_top"] ["_law_state_here"] (defScope s_law_ratio_0f72) := ⟨rfl, rfl, rfl, by decide +kernel, rfl, by decide +kernel, by decide +kernel⟩
theorem ok_law_ratio_0f72 (F : FunD K "_law_ratio" "_law_ratio" (defArgs s_law_ratio_0f72) (defBody s_law_ratio_0f72) (defScope s_law_ratio_0f72) [] [] f fd) (b : Txt K mg CR) (T : RatT P w K mg base CR) (F_law_draw_82fd : Def P w K mg base CR 41 "_law_draw" ["_law_state_here", "_law_many"] sp_law_draw_82fd) (F_law_whole : Def P w K mg base CR 42 "_law_whole" ["_law_state_here"] sp_law_whole) : FnOk P w K mg base (L2.CX P w) 43 f fd ["_law_state_here"] (lSp K CR sp_law_ratio_0f72) :=
  okD F sc_law_ratio_0f72 (fun cdv A outer s H E hr => (s_cons (s_set (i := 1) sc_law_ratio_0f72.nd (d_call F_law_whole (hr.mono (by decide)) (da_cons (dv 0) da_nil)))
    (s_cons (s_if (t_cmp (T.o_eq hr) (d_call F_law_draw_82fd (hr.mono (by decide)) (da_cons (dv 0) (da_cons di da_nil))) di)
    (s_one (s_ret (T.ini.d_mk T.g (hr.mono (by decide)) (da_cons (dv 1) da_nil))))
    s_nil)
    (s_one (s_ret (T.ini.d_mk T.g (hr.mono (by decide)) (da_cons (dv 1) (da_cons (d_op (T.o_add hr) di (d_call F_law_draw_82fd (hr.mono (by decide)) (da_cons (dv 0) (da_cons di da_nil)))) da_nil)))))))) (fun ds M Q E h => by repeat (first | (obtain ⟨e, _⟩ := h; exact congrArg List.length e) | (obtain ⟨_, h⟩ := h))) rd_law_ratio_0f72
theorem sc_law_terms_6d2d : FnScope ["_law_state_here", "_law_names_here", "_law_chosen", "_law_name", "_law_coefficient"] ["_law_state_here", "_law_names_here"] (defScope s_law_terms_6d2d) := ⟨rfl, rfl, rfl, by decide +kernel, rfl, by decide +kernel, by decide +kernel⟩
theorem ok_law_terms_6d2d (F : FunD K "_law_terms" "_law_terms" (defArgs s_law_terms_6d2d) (defBody s_law_terms_6d2d) (defScope s_law_terms_6d2d) [] [] f fd) (b : Txt K mg CR) (T : RatT P w K mg base CR) (F_law_draw_82fd : Def P w K mg base CR 41 "_law_draw" ["_law_state_here", "_law_many"] sp_law_draw_82fd) : FnOk P w K mg base (L2.CX P w) 42 f fd ["_law_state_here", "_law_names_here"] (lSp K CR sp_law_terms_6d2d) :=
  okD F sc_law_terms_6d2d (fun cdv A outer s H E hr => (s_cons (s_set (i := 2) sc_law_terms_6d2d.nd (d_lstR da_nil))
    (s_cons (s_for PassesOwn.never rfl (i_it (dv 1)) (g_nm (i := 3) sc_law_terms_6d2d.nd)
    (s_one (s_if (t_bool (w_and (t_cmp (T.o_gt hr) (d_call F_law_draw_82fd (hr.mono (by decide)) (da_cons (dv 0) (da_cons di da_nil))) di) (w_and1 (t_cmp (T.o_lt hr) (d_B c_len b.f_len (da_cons (dv 2) da_nil)) di))))
    (s_cons (s_set (i := 4) sc_law_terms_6d2d.nd (d_ix (d_tup (da_cons di (da_cons (d_un (T.o_neg hr) di) (da_cons di (da_cons (d_un (T.o_neg hr) di) (da_cons di (da_cons (d_un (T.o_neg hr) di) (da_cons di (da_cons (d_un (T.o_neg hr) di) da_nil))))))))) (d_call F_law_draw_82fd (hr.mono (by decide)) (da_cons (dv 0) (da_cons di da_nil)))))
    (s_one (s_expr (d_app (pe_bm PySem.F.plainAttrs_list PySem.F.slot_list_append PySem.F.type_list_append mt_append (dv 2) (da_cons (d_tup (da_cons (dv 3) (da_cons (dv 4) da_nil))) da_nil))))))
    s_nil)))
    (s_cons (s_if (t_cmp (T.o_eq hr) (d_B c_len b.f_len (da_cons (dv 2) da_nil)) di)
    (s_one (s_expr (d_app (pe_bm PySem.F.plainAttrs_list PySem.F.slot_list_append PySem.F.type_list_append mt_append (dv 2) (da_cons (d_tup (da_cons (d_ix (dv 1) di) (da_cons di da_nil))) da_nil)))))
    s_nil)
    (s_one (s_ret (d_Ty c_tuple b.f_tuple (da_cons (dv 2) da_nil)))))))) (fun ds M Q E h => by repeat (first | (obtain ⟨e, _⟩ := h; exact congrArg List.length e) | (obtain ⟨_, h⟩ := h))) rd_law_terms_6d2d
theorem sc_law_reading : FnScope ["_law_state_here", "_law_names_here", "_law_count"] ["_law_state_here", "_law_names_here", "_law_count"] (defScope s_law_reading) := ⟨rfl, rfl, rfl, by decide +kernel, rfl, by decide +kernel, by decide +kernel⟩
theorem ok_law_reading (F : FunD K "_law_reading" "_law_reading" (defArgs s_law_reading) (defBody s_law_reading) (defScope s_law_reading) [] [] f fd) (b : Txt K mg CR) (T : RatT P w K mg base CR) (BK : BkT K AD) (EK : EkT P w K mg base AD) (N_Reading___init__ : MkC P w K mg base CR 41 "Reading" AD.rd ["self", "name", "terms", "value", "weight"] (sp_Reading___init__ AD)) (F_law_weight_w : Def P w K mg base CR 42 "_law_weight" ["_law_state_here"] sp_law_weight_w) (F_law_ratio_0f72 : Def P w K mg base CR 43 "_law_ratio" ["_law_state_here"] sp_law_ratio_0f72) (F_law_terms_6d2d : Def P w K mg base CR 42 "_law_terms" ["_law_state_here", "_law_names_here"] sp_law_terms_6d2d) : FnOk P w K mg base (L2.CX P w) 44 f fd ["_law_state_here", "_law_names_here", "_law_count"] (lSp K CR (sp_law_reading AD)) :=
  okD F sc_law_reading (fun cdv A outer s H E hr => (s_one (s_ret (d_mkZ N_Reading___init__ hr (da_cons (d_op (T.o_add hr) ds (d_Ty c_str b.f_str (da_cons (dv 2) da_nil))) (da_cons (d_call F_law_terms_6d2d (hr.mono (by decide)) (da_cons (dv 0) (da_cons (dv 1) da_nil))) (da_cons (d_call F_law_ratio_0f72 (hr.mono (by decide)) (da_cons (dv 0) da_nil)) (da_cons (d_call F_law_weight_w (hr.mono (by decide)) (da_cons (dv 0) da_nil)) da_nil)))))))) (fun ds M Q E h => by repeat (first | (obtain ⟨e, _⟩ := h; exact congrArg List.length e) | (obtain ⟨_, h⟩ := h))) (rd_law_reading AD)
theorem sc_law_names_51c2 : FnScope ["_law_state_here", "_law_most", "_law_k"] ["_law_state_here", "_law_most"] (defScope s_law_names_51c2) := ⟨rfl, rfl, rfl, by decide +kernel, rfl, by decide +kernel, by decide +kernel⟩
theorem ok_law_names_51c2 (F : FunD K "_law_names" "_law_names" (defArgs s_law_names_51c2) (defBody s_law_names_51c2) (defScope s_law_names_51c2) [] [] f fd) (b : Txt K mg CR) (T : RatT P w K mg base CR) (F_law_draw_82fd : Def P w K mg base CR 41 "_law_draw" ["_law_state_here", "_law_many"] sp_law_draw_82fd) : FnOk P w K mg base (L2.CX P w) 42 f fd ["_law_state_here", "_law_most"] (lSp K CR sp_law_names_51c2) :=
  okD F sc_law_names_51c2 (fun cdv A outer s H E hr => (s_one (s_ret (d_lc (own := [("_law_k", 2)]) (g := (gName 2)) rfl sc_law_names_51c2.nd (i_rng1 b.f_range (da_cons (d_op (T.o_add hr) di (d_call F_law_draw_82fd (hr.mono (by decide)) (da_cons (dv 0) (da_cons (dv 1) da_nil)))) da_nil)) (by kernel_rfl) (cg_nm (j := 2) (by decide)) (mono_nm (j := 2)) (fun _ _ _ _ _ => (pg_name (i := 2) sc_law_names_51c2.nd rfl (by first | exact Or.inl rfl | exact Or.inr rfl))) (fun _ _ _ _ _ => ts_nil) (fun _ _ _ _ _ => (d_op (T.o_add hr) ds (d_Ty c_str b.f_str (da_cons (dv 2) da_nil)))))))) (fun ds M Q E h => by repeat (first | (obtain ⟨e, _⟩ := h; exact congrArg List.length e) | (obtain ⟨_, h⟩ := h))) rd_law_names_51c2
theorem sc_law_net_71f1 : FnScope ["_law_state_here", "_law_most", "_law_many", "_law_names_here", "_law_net_here", "_law_name", "_law_readings", "_law_k"] ["_law_state_here", "_law_most", "_law_many"] (defScope s_law_net_71f1) := ⟨rfl, rfl, rfl, by decide +kernel, rfl, by decide +kernel, by decide +kernel⟩
theorem ok_law_net_71f1 (F : FunD K "_law_net" "_law_net" (defArgs s_law_net_71f1) (defBody s_law_net_71f1) (defScope s_law_net_71f1) [] [] f fd) (b : Txt K mg CR) (T : RatT P w K mg base CR) (BK : BkT K AD) (EK : EkT P w K mg base AD) (M_Net_add_48dc : MethC P w K mg base CR 46 AD.nt "add" ["self", "reading"] (sp_Net_add_48dc AD)) (M_Net_add_point_5ee7 : MethC P w K mg base CR 42 AD.nt "add_point" ["self", "name", "approximation"] (sp_Net_add_point_5ee7 AD)) (N_Net___init__ : MkC P w K mg base CR 41 "Net" AD.nt ["self"] (sp_Net___init__ AD)) (F_law_draw_82fd : Def P w K mg base CR 41 "_law_draw" ["_law_state_here", "_law_many"] sp_law_draw_82fd) (F_law_reading : Def P w K mg base CR 44 "_law_reading" ["_law_state_here", "_law_names_here", "_law_count"] (sp_law_reading AD)) (F_law_ratio_0f72 : Def P w K mg base CR 43 "_law_ratio" ["_law_state_here"] sp_law_ratio_0f72) (F_law_names_51c2 : Def P w K mg base CR 42 "_law_names" ["_law_state_here", "_law_most"] sp_law_names_51c2) : FnOk P w K mg base (L2.CX P w) 47 f fd ["_law_state_here", "_law_most", "_law_many"] (lSp K CR (sp_law_net_71f1 AD)) :=
  okD F sc_law_net_71f1 (fun cdv A outer s H E hr => (s_cons (s_set (i := 3) sc_law_net_71f1.nd (d_call F_law_names_51c2 (hr.mono (by decide)) (da_cons (dv 0) (da_cons (dv 1) da_nil))))
    (s_cons (s_set (i := 4) sc_law_net_71f1.nd (d_mkR0 N_Net___init__ hr))
    (s_cons (s_for PassesOwn.never rfl (i_it (dv 3)) (g_nm (i := 5) sc_law_net_71f1.nd)
    (s_one (s_expr (d_methC M_Net_add_point_5ee7 hr takes0 (dv 4) (da_cons (dv 5) (da_cons (d_call F_law_ratio_0f72 (hr.mono (by decide)) (da_cons (dv 0) da_nil)) da_nil))))))
    (s_cons (s_set (i := 6) sc_law_net_71f1.nd (d_lstR da_nil))
    (s_cons (s_for PassesOwn.never rfl (i_rng1 b.f_range (da_cons (d_call F_law_draw_82fd (hr.mono (by decide)) (da_cons (dv 0) (da_cons (dv 2) da_nil))) da_nil)) (g_nm (i := 7) sc_law_net_71f1.nd)
    (s_cons (s_expr (d_app (pe_bm PySem.F.plainAttrs_list PySem.F.slot_list_append PySem.F.type_list_append mt_append (dv 6) (da_cons (d_call F_law_reading (hr.mono (by decide)) (da_cons (dv 0) (da_cons (dv 3) (da_cons (dv 7) da_nil)))) da_nil))))
    (s_one (s_expr (d_methC M_Net_add_48dc hr takes0 (dv 4) (da_cons (d_ix (dv 6) (d_un (T.o_neg hr) di)) da_nil))))))
    (s_one (s_ret (d_lst (da_cons (dv 4) (da_cons (dv 3) (da_cons (dv 6) da_nil)))))))))))) (fun ds M Q E h => by repeat (first | (obtain ⟨e, _⟩ := h; exact congrArg List.length e) | (obtain ⟨_, h⟩ := h))) (rd_law_net_71f1 AD)
theorem sc_law_state_87c3 : FnScope ["_law_script", "_law_digits", "_law_seed", "_law_cell", "_law_rest", "_law_k"] ["_law_script"] (defScope s_law_state_87c3) := ⟨rfl, rfl, rfl, by decide +kernel, rfl, by decide +kernel, by decide +kernel⟩
theorem ok_law_state_87c3 (F : FunD K "_law_state" "_law_state" (defArgs s_law_state_87c3) (defBody s_law_state_87c3) (defScope s_law_state_87c3) [] [] f fd) (b : Txt K mg CR) (T : RatT P w K mg base CR) : FnOk P w K mg base (L2.CX P w) 41 f fd ["_law_script"] (lSp K CR sp_law_state_87c3) :=
  okD F sc_law_state_87c3 (fun cdv A outer s H E hr => (s_cons (s_set (i := 1) sc_law_state_87c3.nd (d_lstR da_nil))
    (s_cons (s_set (i := 2) sc_law_state_87c3.nd di)
    (s_cons (s_for PassesOwn.never rfl (i_it (dv 0)) (g_nm (i := 3) sc_law_state_87c3.nd)
    (s_cons (s_set (i := 4) sc_law_state_87c3.nd (d_B c_absI b.f_abs (da_cons (dv 3) da_nil)))
    (s_cons (s_set (i := 2) sc_law_state_87c3.nd (d_op o_mod (d_Ty c_int b.f_int (da_cons (d_op o_addP (d_op o_addP (d_op o_mulI (dv 2) di) (dv 4)) di) da_nil)) di))
    (s_one (s_for PassesOwn.never rfl (i_rng1 b.f_range (da_cons di da_nil)) (g_nm (i := 5) sc_law_state_87c3.nd)
    (s_one (s_if (t_bool (w_or (t_cmp o_gt (dv 4) di) (w_or1 (t_cmp (o_eqP hr.units) (dv 5) di))))
    (s_cons (s_expr (d_app (pe_bm PySem.F.plainAttrs_list PySem.F.slot_list_append PySem.F.type_list_append mt_append (dv 1) (da_cons (d_op o_mod (d_Ty c_int b.f_int (da_cons (dv 4) da_nil)) di) da_nil))))
    (s_one (s_set (i := 4) sc_law_state_87c3.nd (d_op o_fdiv (dv 4) di))))
    s_nil)))))))
    (s_go (s_one (s_ret (d_lstR (da_cons (dv 1) (da_cons di (da_cons (dv 2) da_nil))))))))))) (fun ds M Q E h => by repeat (first | (obtain ⟨e, _⟩ := h; exact congrArg List.length e) | (obtain ⟨_, h⟩ := h))) rd_law_state_87c3
theorem sc_law_c14d : FnScope ["_law_script", "_law_state_here", "_law_factor", "_law_left", "_law_other", "_law_twice", "_law_k", "_law_net_here", "_law_names_here", "_law_readings", "_law_one"] ["_law_script"] (defScope s_law_c14d) := ⟨rfl, rfl, rfl, by decide +kernel, rfl, by decide +kernel, by decide +kernel⟩
theorem ok_law_c14d (F : FunD K "law" "law" (defArgs s_law_c14d) (defBody s_law_c14d) (defScope s_law_c14d) [] [] f fd) (b : Txt K mg CR) (T : RatT P w K mg base CR) (BK : BkT K AD) (EK : EkT P w K mg base AD) (M_Net_squares_0871 : MethC P w K mg base CR 43 AD.nt "squares" ["self"] (sp_Net_squares_0871 AD)) (M_Net_heights : MethC P w K mg base CR 43 AD.nt "heights" ["self"] (sp_Net_heights AD)) (N_Reading___init__ : MkC P w K mg base CR 41 "Reading" AD.rd ["self", "name", "terms", "value", "weight"] (sp_Reading___init__ AD)) (M_Net_add_48dc : MethC P w K mg base CR 46 AD.nt "add" ["self", "reading"] (sp_Net_add_48dc AD)) (M_Net_add_point_5ee7 : MethC P w K mg base CR 42 AD.nt "add_point" ["self", "name", "approximation"] (sp_Net_add_point_5ee7 AD)) (N_Net___init__ : MkC P w K mg base CR 41 "Net" AD.nt ["self"] (sp_Net___init__ AD)) (F_law_same_e380 : Def P w K mg base CR 41 "_law_same" ["_law_first", "_law_second"] sp_law_same_e380) (F_law_same_vectors : Def P w K mg base CR 42 "_law_same_vectors" ["_law_first", "_law_second"] sp_law_same_vectors) (F_law_draw_82fd : Def P w K mg base CR 41 "_law_draw" ["_law_state_here", "_law_many"] sp_law_draw_82fd) (F_law_weight_w : Def P w K mg base CR 42 "_law_weight" ["_law_state_here"] sp_law_weight_w) (F_law_net_71f1 : Def P w K mg base CR 47 "_law_net" ["_law_state_here", "_law_most", "_law_many"] (sp_law_net_71f1 AD)) (F_law_state_87c3 : Def P w K mg base CR 41 "_law_state" ["_law_script"] sp_law_state_87c3) : FnOk P w K mg base (L2.CX P w) 48 f fd ["_law_script"] (lSp K CR sp_law_c14d) :=
  okD F sc_law_c14d (fun cdv A outer s H E hr => (s_cons (s_set (i := 1) sc_law_c14d.nd (d_call F_law_state_87c3 (hr.mono (by decide)) (da_cons (dv 0) da_nil)))
    (s_cons (s_asg (d_call F_law_net_71f1 (hr.mono (by decide)) (da_cons (dv 1) (da_cons di (da_cons di da_nil)))) (g_tuL rfl (gs_cons (g_nm (i := 7) sc_law_c14d.nd) (gs_cons (g_nm (i := 8) sc_law_c14d.nd) (gs_cons (g_nm (i := 9) sc_law_c14d.nd) gs_nil)))))
    (s_cons (s_set (i := 2) sc_law_c14d.nd (d_call F_law_weight_w (hr.mono (by decide)) (da_cons (dv 1) da_nil)))
    (s_cons (s_set (i := 3) sc_law_c14d.nd (d_Ty c_listR b.f_list (da_cons (dv 9) da_nil)))
    (s_cons (s_set (i := 4) sc_law_c14d.nd (d_mkR0 N_Net___init__ hr))
    (s_cons (s_set (i := 5) sc_law_c14d.nd (d_mkR0 N_Net___init__ hr))
    (s_cons (s_for PassesOwn.never rfl (i_rng1 b.f_range (da_cons (d_B c_len b.f_len (da_cons (dv 8) da_nil)) da_nil)) (g_nm (i := 6) sc_law_c14d.nd)
    (s_cons (s_expr (d_methC M_Net_add_point_5ee7 hr takes0 (dv 4) (da_cons (d_ix (dv 8) (dv 6)) (da_cons (d_ix (d_fld (okC := (· = AD.nt)) (fun C h => by subst h; exact ⟨BK.nc, BK.n_approximations⟩) (dv 7)) (dv 6)) da_nil))))
    (s_one (s_expr (d_methC M_Net_add_point_5ee7 hr takes0 (dv 5) (da_cons (d_ix (dv 8) (dv 6)) (da_cons (d_ix (d_fld (okC := (· = AD.nt)) (fun C h => by subst h; exact ⟨BK.nc, BK.n_approximations⟩) (dv 7)) (dv 6)) da_nil)))))))
    (s_cons (s_for PassesOwn.never rfl (i_rng1 b.f_range (da_cons (d_B c_len b.f_len (da_cons (dv 9) da_nil)) da_nil)) (g_nm (i := 6) sc_law_c14d.nd)
    (s_cons (s_set (i := 10) sc_law_c14d.nd (d_pop (pe_bm PySem.F.plainAttrs_list PySem.F.slot_list_pop PySem.F.type_list_pop mt_popAt (dv 3) (da_cons (d_call F_law_draw_82fd (hr.mono (by decide)) (da_cons (dv 1) (da_cons (d_B c_len b.f_len (da_cons (dv 3) da_nil)) da_nil))) da_nil))))
    (s_cons (s_expr (d_methC M_Net_add_48dc hr takes0 (dv 4) (da_cons (d_mkZ N_Reading___init__ hr (da_cons (d_fld (okC := (· = AD.rd)) (fun C h => by subst h; exact ⟨BK.rc, BK.name⟩) (dv 10)) (da_cons (d_fld (okC := (· = AD.rd)) (fun C h => by subst h; exact ⟨BK.rc, BK.terms⟩) (dv 10)) (da_cons (d_fld (okC := (· = AD.rd)) (fun C h => by subst h; exact ⟨BK.rc, BK.value⟩) (dv 10)) (da_cons (d_op (T.o_mul hr) (d_fld (okC := (· = AD.rd)) (fun C h => by subst h; exact ⟨BK.rc, BK.weight⟩) (dv 10)) (dv 2)) da_nil))))) da_nil)))
    (s_cons (s_expr (d_methC M_Net_add_48dc hr takes0 (dv 5) (da_cons (d_mkZ N_Reading___init__ hr (da_cons (d_op (T.o_add hr) (d_fld (okC := (· = AD.rd)) (fun C h => by subst h; exact ⟨BK.rc, BK.name⟩) (dv 10)) ds) (da_cons (d_fld (okC := (· = AD.rd)) (fun C h => by subst h; exact ⟨BK.rc, BK.terms⟩) (dv 10)) (da_cons (d_fld (okC := (· = AD.rd)) (fun C h => by subst h; exact ⟨BK.rc, BK.value⟩) (dv 10)) (da_cons (d_op (T.o_mul hr) (d_fld (okC := (· = AD.rd)) (fun C h => by subst h; exact ⟨BK.rc, BK.weight⟩) (dv 10)) (T.ini.d_mk T.g (hr.mono (by decide)) (da_cons di (da_cons di da_nil)))) da_nil))))) da_nil)))
    (s_one (s_expr (d_methC M_Net_add_48dc hr takes0 (dv 5) (da_cons (d_mkZ N_Reading___init__ hr (da_cons (d_op (T.o_add hr) (d_fld (okC := (· = AD.rd)) (fun C h => by subst h; exact ⟨BK.rc, BK.name⟩) (dv 10)) ds) (da_cons (d_fld (okC := (· = AD.rd)) (fun C h => by subst h; exact ⟨BK.rc, BK.terms⟩) (dv 10)) (da_cons (d_fld (okC := (· = AD.rd)) (fun C h => by subst h; exact ⟨BK.rc, BK.value⟩) (dv 10)) (da_cons (d_op (T.o_mul hr) (d_fld (okC := (· = AD.rd)) (fun C h => by subst h; exact ⟨BK.rc, BK.weight⟩) (dv 10)) (T.ini.d_mk T.g (hr.mono (by decide)) (da_cons di (da_cons di da_nil)))) da_nil))))) da_nil))))))))
    (s_cons (s_if (t_bool (w_or (t_not (t_tru (d_call F_law_same_vectors (hr.mono (by decide)) (da_cons (d_methC0 M_Net_heights hr takes0 (dv 4)) (da_cons (d_methC0 M_Net_heights hr takes0 (dv 7)) da_nil))))) (w_or1 (t_not (t_tru (d_call F_law_same_vectors (hr.mono (by decide)) (da_cons (d_methC0 M_Net_heights hr takes0 (dv 5)) (da_cons (d_methC0 M_Net_heights hr takes0 (dv 7)) da_nil))))))))
    (s_one (s_ret db))
    s_nil)
    (s_one (s_ret (v_and (d_call F_law_same_e380 (hr.mono (by decide)) (da_cons (d_methC0 M_Net_squares_0871 hr takes0 (dv 4)) (da_cons (d_op (T.o_mul hr) (d_methC0 M_Net_squares_0871 hr takes0 (dv 7)) (dv 2)) da_nil))) (v_one (d_call F_law_same_e380 (hr.mono (by decide)) (da_cons (d_methC0 M_Net_squares_0871 hr takes0 (dv 5)) (da_cons (d_methC0 M_Net_squares_0871 hr takes0 (dv 7)) da_nil))))))))))))))))) (fun ds M Q E h => by repeat (first | (obtain ⟨e, _⟩ := h; exact congrArg List.length e) | (obtain ⟨_, h⟩ := h))) (rd_law_c14d AD)
end
theorem facts {P : Program} {w : World} {K : PySem.W.Frag} {h : Heap} {mg : Str → Option Value} {f : Addr} (X : K.In h) (G : h.Ns mainGlobals mg) (hfa : mg ("law" : Str) = some (.ref f)) (c : He.SaysD fa fn K) (cr : ratCk K = true) (pt : P.given.tree = none) (c_dup : errB K "DuplicateName" "name" = true) (c_up : errB K "UnknownPoint" "name" = true) (c_lim : errB K "LimitReached" "what" = true) :
    ∃ fd : FuncData, (∀ (s : Shared) (v : Value), BindsTo s fd ⟨[v], []⟩ [("_law_script", v)]) ∧ ∀ base : Heap, K.In base → base.Ns mainGlobals mg → FnOk P w K mg base (L2.CX P w) 48 f fd ["_law_script"] (lSp K (He.ga K "Ratio") sp_law_c14d) := by
  obtain ⟨fd_dot_w, U_dot_w⟩ := c.def_ 0 (d := d_dot_w) rfl
  obtain ⟨fd_apply_w, U_apply_w⟩ := c.def_ 1 (d := d_apply_w) rfl
  obtain ⟨fd_Net_squares_0871, U_Net_squares_0871⟩ := c.def_ 2 (d := d_Net_squares_0871) rfl
  obtain ⟨fd_plus, U_plus⟩ := c.def_ 3 (d := d_plus) rfl
  obtain ⟨fd_Net_heights, U_Net_heights⟩ := c.def_ 4 (d := d_Net_heights) rfl
  obtain ⟨fd_Reading___init__, U_Reading___init__⟩ := c.def_ 5 (d := d_Reading___init__) rfl
  obtain ⟨fd_Net_row, U_Net_row⟩ := c.def_ 6 (d := d_Net_row) rfl
  obtain ⟨fd_scale, U_scale⟩ := c.def_ 7 (d := d_scale) rfl
  obtain ⟨fd_sum_of, U_sum_of⟩ := c.def_ 8 (d := d_sum_of) rfl
  obtain ⟨fd_scaled, U_scaled⟩ := c.def_ 9 (d := d_scaled) rfl
  obtain ⟨fd_outer, U_outer⟩ := c.def_ 10 (d := d_outer) rfl
  obtain ⟨fd_add_term, U_add_term⟩ := c.def_ 11 (d := d_add_term) rfl
  obtain ⟨fd_Net_tally, U_Net_tally⟩ := c.def_ 12 (d := d_Net_tally) rfl
  obtain ⟨fd_is_zero, U_is_zero⟩ := c.def_ 13 (d := d_is_zero) rfl
  obtain ⟨fd_minus, U_minus⟩ := c.def_ 14 (d := d_minus) rfl
  obtain ⟨fd_with_added_b, U_with_added_b⟩ := c.def_ 15 (d := d_with_added_b) rfl
  obtain ⟨fd_Net_put, U_Net_put⟩ := c.def_ 16 (d := d_Net_put) rfl
  obtain ⟨fd_Net_add_48dc, U_Net_add_48dc⟩ := c.def_ 17 (d := d_Net_add_48dc) rfl
  obtain ⟨fd_widened, U_widened⟩ := c.def_ 18 (d := d_widened) rfl
  obtain ⟨fd_Net_add_point_5ee7, U_Net_add_point_5ee7⟩ := c.def_ 19 (d := d_Net_add_point_5ee7) rfl
  obtain ⟨fd_Net___init__, U_Net___init__⟩ := c.def_ 20 (d := d_Net___init__) rfl
  obtain ⟨fd_law_same_e380, U_law_same_e380⟩ := c.def_ 21 (d := d_law_same_e380) rfl
  obtain ⟨fd_law_same_vectors, U_law_same_vectors⟩ := c.def_ 22 (d := d_law_same_vectors) rfl
  obtain ⟨fd_law_draw_82fd, U_law_draw_82fd⟩ := c.def_ 23 (d := d_law_draw_82fd) rfl
  obtain ⟨fd_law_weight_w, U_law_weight_w⟩ := c.def_ 24 (d := d_law_weight_w) rfl
  obtain ⟨fd_law_whole, U_law_whole⟩ := c.def_ 25 (d := d_law_whole) rfl
  obtain ⟨fd_law_ratio_0f72, U_law_ratio_0f72⟩ := c.def_ 26 (d := d_law_ratio_0f72) rfl
  obtain ⟨fd_law_terms_6d2d, U_law_terms_6d2d⟩ := c.def_ 27 (d := d_law_terms_6d2d) rfl
  obtain ⟨fd_law_reading, U_law_reading⟩ := c.def_ 28 (d := d_law_reading) rfl
  obtain ⟨fd_law_names_51c2, U_law_names_51c2⟩ := c.def_ 29 (d := d_law_names_51c2) rfl
  obtain ⟨fd_law_net_71f1, U_law_net_71f1⟩ := c.def_ 30 (d := d_law_net_71f1) rfl
  obtain ⟨fd_law_state_87c3, U_law_state_87c3⟩ := c.def_ 31 (d := d_law_state_87c3) rfl
  obtain ⟨fd_law_c14d, U_law_c14d⟩ := c.def_ 32 (d := d_law_c14d) rfl
  obtain ⟨fd_Ratio___init__, U_Ratio___init__⟩ := c.def_ 33 (d := d_Ratio___init__) rfl
  obtain ⟨fd_Ratio___add__, U_Ratio___add__⟩ := c.def_ 34 (d := d_Ratio___add__) rfl
  obtain ⟨fd_Ratio___sub__, U_Ratio___sub__⟩ := c.def_ 35 (d := d_Ratio___sub__) rfl
  obtain ⟨fd_Ratio___mul__, U_Ratio___mul__⟩ := c.def_ 36 (d := d_Ratio___mul__) rfl
  obtain ⟨fd_Ratio___neg__, U_Ratio___neg__⟩ := c.def_ 37 (d := d_Ratio___neg__) rfl
  obtain ⟨fd_Ratio___eq__, U_Ratio___eq__⟩ := c.def_ 38 (d := d_Ratio___eq__) rfl
  obtain ⟨fd_Ratio___lt__, U_Ratio___lt__⟩ := c.def_ 39 (d := d_Ratio___lt__) rfl
  obtain ⟨fd_Ratio___le__, U_Ratio___le__⟩ := c.def_ 40 (d := d_Ratio___le__) rfl
  obtain ⟨fd_Ratio___gt__, U_Ratio___gt__⟩ := c.def_ 41 (d := d_Ratio___gt__) rfl
  obtain ⟨fd_Ratio___ge__, U_Ratio___ge__⟩ := c.def_ 42 (d := d_Ratio___ge__) rfl
  obtain ⟨fd_Ratio___abs__, U_Ratio___abs__⟩ := c.def_ 43 (d := d_Ratio___abs__) rfl
  obtain ⟨fd_Ratio_over_fdb9, U_Ratio_over_fdb9⟩ := c.def_ 44 (d := d_Ratio_over_fdb9) rfl
  obtain ⟨fd_DuplicateName___init__, U_DuplicateName___init__⟩ := c.def_ 45 (d := d_DuplicateName___init__) rfl
  obtain ⟨fd_UnknownPoint___init__, U_UnknownPoint___init__⟩ := c.def_ 46 (d := d_UnknownPoint___init__) rfl
  obtain ⟨fd_LimitReached___init__, U_LimitReached___init__⟩ := c.def_ 47 (d := d_LimitReached___init__) rfl
  have e := hfa.symm.trans (He.glo_ok X G (c.fact 23 (f := .glo "law") rfl))
  cases e
  have bt := FunD.bindsA (ps := ["_law_script"]) U_law_c14d fun _ _ _ _ _ _ us hl => match us, hl with | [_], _ => rfl
  have b : Txt K mg (He.ga K "Ratio") := ⟨ratCk_gcd X G cr, He.free_ok X G (c.fact 24 (f := .free "isinstance") rfl), He.free_ok X G (c.fact 25 (f := .free "abs") rfl), He.free_ok X G (c.fact 26 (f := .free "zip") rfl), He.free_ok X G (c.fact 27 (f := .free "tuple") rfl), He.free_ok X G (c.fact 28 (f := .free "len") rfl), He.int_ok X G (c.fact 29 (f := .int "MOST_READINGS" (24)) rfl), He.free_ok X G (c.fact 30 (f := .free "range") rfl), He.int_ok X G (c.fact 31 (f := .int "MOST_POINTS" (12)) rfl), He.free_ok X G (c.fact 32 (f := .free "int") rfl), He.free_ok X G (c.fact 33 (f := .free "str") rfl), He.free_ok X G (c.fact 34 (f := .free "list") rfl)⟩
  refine ⟨fd_law_c14d, fun s v => bt s [v] rfl, fun base _ _ => ?_⟩
  have T0 : RatT0 P w K mg base (He.ga K "Ratio") := ⟨He.cls_ok (c.fact 35 (f := .cls "Ratio") rfl), He.noat_ok (c.fact 36 (f := .noat "Ratio" "top") rfl), He.noat_ok (c.fact 37 (f := .noat "Ratio" "bottom") rfl), He.glo_ok X G (c.fact 38 (f := .glo "Ratio") rfl), ratCk_first cr, ratCk_isf cr, mkOk_of (st := s_Ratio___init__) (x := "__init__") (qual := "Ratio.__init__") U_Ratio___init__ (He.mkr_ok (c.fact 39 (f := .mkr "Ratio") rfl)) (ok_Ratio___init__ U_Ratio___init__ b (He.cls_ok (c.fact 35 (f := .cls "Ratio") rfl)) (He.noat_ok (c.fact 36 (f := .noat "Ratio" "top") rfl)) (He.noat_ok (c.fact 37 (f := .noat "Ratio" "bottom") rfl)) (ratCk_seer cr) pt) fun T kV doc pm an cdv ct a b c d => ⟨⟨_, rfl, rfl⟩, ⟨_, rfl, rfl⟩⟩⟩
  have T : RatT P w K mg base (He.ga K "Ratio") := ⟨T0, op2_of (st := s_Ratio___add__) (x := "__add__") (qual := "Ratio.__add__") U_Ratio___add__ (He.meth_ok (c.fact 40 (f := .meth "Ratio" "__add__") rfl)) (ok_Ratio___add__ U_Ratio___add__ b T0) fun _ _ _ _ _ _ _ _ => rfl,
    op2_of (st := s_Ratio___sub__) (x := "__sub__") (qual := "Ratio.__sub__") U_Ratio___sub__ (He.meth_ok (c.fact 41 (f := .meth "Ratio" "__sub__") rfl)) (ok_Ratio___sub__ U_Ratio___sub__ b T0) fun _ _ _ _ _ _ _ _ => rfl,
    op2_of (st := s_Ratio___mul__) (x := "__mul__") (qual := "Ratio.__mul__") U_Ratio___mul__ (He.meth_ok (c.fact 42 (f := .meth "Ratio" "__mul__") rfl)) (ok_Ratio___mul__ U_Ratio___mul__ b T0) fun _ _ _ _ _ _ _ _ => rfl,
    op1_of (st := s_Ratio___neg__) (x := "__neg__") (qual := "Ratio.__neg__") U_Ratio___neg__ (He.meth_ok (c.fact 43 (f := .meth "Ratio" "__neg__") rfl)) (ok_Ratio___neg__ U_Ratio___neg__ b T0) fun _ _ _ _ _ _ _ => rfl,
    op2_of (st := s_Ratio___eq__) (x := "__eq__") (qual := "Ratio.__eq__") U_Ratio___eq__ (He.meth_ok (c.fact 44 (f := .meth "Ratio" "__eq__") rfl)) (ok_Ratio___eq__ U_Ratio___eq__ b T0) fun _ _ _ _ _ _ _ _ => rfl,
    op2_of (st := s_Ratio___lt__) (x := "__lt__") (qual := "Ratio.__lt__") U_Ratio___lt__ (He.meth_ok (c.fact 45 (f := .meth "Ratio" "__lt__") rfl)) (ok_Ratio___lt__ U_Ratio___lt__ b T0) fun _ _ _ _ _ _ _ _ => rfl,
    op2_of (st := s_Ratio___le__) (x := "__le__") (qual := "Ratio.__le__") U_Ratio___le__ (He.meth_ok (c.fact 46 (f := .meth "Ratio" "__le__") rfl)) (ok_Ratio___le__ U_Ratio___le__ b T0) fun _ _ _ _ _ _ _ _ => rfl,
    op2_of (st := s_Ratio___gt__) (x := "__gt__") (qual := "Ratio.__gt__") U_Ratio___gt__ (He.meth_ok (c.fact 47 (f := .meth "Ratio" "__gt__") rfl)) (ok_Ratio___gt__ U_Ratio___gt__ b T0) fun _ _ _ _ _ _ _ _ => rfl,
    op2_of (st := s_Ratio___ge__) (x := "__ge__") (qual := "Ratio.__ge__") U_Ratio___ge__ (He.meth_ok (c.fact 48 (f := .meth "Ratio" "__ge__") rfl)) (ok_Ratio___ge__ U_Ratio___ge__ b T0) fun _ _ _ _ _ _ _ _ => rfl,
    op1_of (st := s_Ratio___abs__) (x := "__abs__") (qual := "Ratio.__abs__") U_Ratio___abs__ (He.meth_ok (c.fact 49 (f := .meth "Ratio" "__abs__") rfl)) (ok_Ratio___abs__ U_Ratio___abs__ b T0) fun _ _ _ _ _ _ _ => rfl⟩
  have OV : MethOk P w K mg base (He.ga K "Ratio") "over" ["self", "other"] sp_over := meth_of (st := s_Ratio_over_fdb9) (x := "over") (qual := "Ratio.over") U_Ratio_over_fdb9 (He.meth_ok (c.fact 50 (f := .meth "Ratio" "over") rfl)) (ok_Ratio_over_fdb9 U_Ratio_over_fdb9 b T0) fun _ _ _ _ _ _ us hl => match us, hl with | [_, _], _ => rfl
  have BK : BkT K (adOf K) := ⟨He.cls_ok (c.fact 51 (f := .cls "Reading") rfl), He.noat_ok (c.fact 54 (f := .noat "Reading" "name") rfl), He.noat_ok (c.fact 55 (f := .noat "Reading" "terms") rfl), He.noat_ok (c.fact 56 (f := .noat "Reading" "value") rfl), He.noat_ok (c.fact 57 (f := .noat "Reading" "weight") rfl), He.cls_ok (c.fact 58 (f := .cls "Net") rfl), He.noat_ok (c.fact 61 (f := .noat "Net" "points") rfl), He.noat_ok (c.fact 62 (f := .noat "Net" "approximations") rfl), He.noat_ok (c.fact 63 (f := .noat "Net" "readings") rfl), He.noat_ok (c.fact 64 (f := .noat "Net" "normal") rfl), He.noat_ok (c.fact 65 (f := .noat "Net" "inverse") rfl), He.noat_ok (c.fact 66 (f := .noat "Net" "right") rfl), He.noat_ok (c.fact 67 (f := .noat "Net" "total") rfl)⟩
  have BE_dup := errB_ok X G c_dup
  have ET_dup : ErrT P w K mg base "DuplicateName" (He.ga K "DuplicateName") "name" := errT_of (st := s_DuplicateName___init__) (qual := "DuplicateName.__init__") BE_dup U_DuplicateName___init__ (ok_DuplicateName___init__ U_DuplicateName___init__ BE_dup.o BE_dup.no) fun _ _ _ _ _ _ _ _ => rfl
  have BE_up := errB_ok X G c_up
  have ET_up : ErrT P w K mg base "UnknownPoint" (He.ga K "UnknownPoint") "name" := errT_of (st := s_UnknownPoint___init__) (qual := "UnknownPoint.__init__") BE_up U_UnknownPoint___init__ (ok_UnknownPoint___init__ U_UnknownPoint___init__ BE_up.o BE_up.no) fun _ _ _ _ _ _ _ _ => rfl
  have BE_lim := errB_ok X G c_lim
  have ET_lim : ErrT P w K mg base "LimitReached" (He.ga K "LimitReached") "what" := errT_of (st := s_LimitReached___init__) (qual := "LimitReached.__init__") BE_lim U_LimitReached___init__ (ok_LimitReached___init__ U_LimitReached___init__ BE_lim.o BE_lim.no) fun _ _ _ _ _ _ _ _ => rfl
  have EK : EkT P w K mg base (adOf K) := ⟨ET_dup, ET_up, ET_lim⟩
  have G_dot_w : Def P w K mg base (He.ga K "Ratio") 41 "dot" ["a", "b"] sp_dot_w := def_mk (st := s_dot_w) (qual := "dot") U_dot_w (He.glo_ok X G (c.fact 0 (f := .glo "dot") rfl)) (ok_dot_w U_dot_w b T) fun _ _ _ _ _ _ us hl => match us, hl with | [_, _], _ => rfl
  have G_apply_w : Def P w K mg base (He.ga K "Ratio") 42 "apply" ["matrix", "vector"] sp_apply_w := def_mk (st := s_apply_w) (qual := "apply") U_apply_w (He.glo_ok X G (c.fact 1 (f := .glo "apply") rfl)) (ok_apply_w U_apply_w b T G_dot_w) fun _ _ _ _ _ _ us hl => match us, hl with | [_, _], _ => rfl
  have M_Net_squares_0871 : MethC P w K mg base (He.ga K "Ratio") 43 (adOf K).nt "squares" ["self"] (sp_Net_squares_0871 (adOf K)) := methC_of (st := s_Net_squares_0871) (x := "squares") (qual := "Net.squares") U_Net_squares_0871 BK.nc (He.meth_ok (c.fact 68 (f := .meth "Net" "squares") rfl)) (ok_Net_squares_0871 U_Net_squares_0871 b T (BK) (EK) G_dot_w G_apply_w) fun _ _ _ _ _ _ us hl => match us, hl with | [_], _ => rfl
  have G_plus : Def P w K mg base (He.ga K "Ratio") 41 "plus" ["a", "b"] sp_plus := def_mk (st := s_plus) (qual := "plus") U_plus (He.glo_ok X G (c.fact 2 (f := .glo "plus") rfl)) (ok_plus U_plus b T) fun _ _ _ _ _ _ us hl => match us, hl with | [_, _], _ => rfl
  have M_Net_heights : MethC P w K mg base (He.ga K "Ratio") 43 (adOf K).nt "heights" ["self"] (sp_Net_heights (adOf K)) := methC_of (st := s_Net_heights) (x := "heights") (qual := "Net.heights") U_Net_heights BK.nc (He.meth_ok (c.fact 69 (f := .meth "Net" "heights") rfl)) (ok_Net_heights U_Net_heights b T (BK) (EK) G_plus G_apply_w) fun _ _ _ _ _ _ us hl => match us, hl with | [_], _ => rfl
  have N_Reading___init__ : MkC P w K mg base (He.ga K "Ratio") 41 "Reading" (adOf K).rd ["self", "name", "terms", "value", "weight"] (sp_Reading___init__ (adOf K)) := mkC_of (st := s_Reading___init__) (x := "__init__") (qual := "Reading.__init__") U_Reading___init__ (He.glo_ok X G (c.fact 52 (f := .glo "Reading") rfl)) (He.mkr_ok (c.fact 53 (f := .mkr "Reading") rfl)) (ok_Reading___init__ U_Reading___init__ b T (BK) (EK)) fun _ _ _ _ _ _ us hl => match us, hl with | [_, _, _, _, _], _ => rfl
  have M_Net_row : MethC P w K mg base (He.ga K "Ratio") 41 (adOf K).nt "row" ["self", "reading"] (sp_Net_row (adOf K)) := methC_of (st := s_Net_row) (x := "row") (qual := "Net.row") U_Net_row BK.nc (He.meth_ok (c.fact 70 (f := .meth "Net" "row") rfl)) (ok_Net_row U_Net_row b T (BK) (EK)) fun _ _ _ _ _ _ us hl => match us, hl with | [_, _], _ => rfl
  have G_scale : Def P w K mg base (He.ga K "Ratio") 41 "scale" ["factor", "a"] sp_scale := def_mk (st := s_scale) (qual := "scale") U_scale (He.glo_ok X G (c.fact 3 (f := .glo "scale") rfl)) (ok_scale U_scale b T) fun _ _ _ _ _ _ us hl => match us, hl with | [_, _], _ => rfl
  have G_sum_of : Def P w K mg base (He.ga K "Ratio") 42 "sum_of" ["first", "second"] sp_sum_of := def_mk (st := s_sum_of) (qual := "sum_of") U_sum_of (He.glo_ok X G (c.fact 4 (f := .glo "sum_of") rfl)) (ok_sum_of U_sum_of b T G_plus) fun _ _ _ _ _ _ us hl => match us, hl with | [_, _], _ => rfl
  have G_scaled : Def P w K mg base (He.ga K "Ratio") 42 "scaled" ["factor", "matrix"] sp_scaled := def_mk (st := s_scaled) (qual := "scaled") U_scaled (He.glo_ok X G (c.fact 5 (f := .glo "scaled") rfl)) (ok_scaled U_scaled b T G_scale) fun _ _ _ _ _ _ us hl => match us, hl with | [_, _], _ => rfl
  have G_outer : Def P w K mg base (He.ga K "Ratio") 42 "outer" ["a", "b"] sp_outer := def_mk (st := s_outer) (qual := "outer") U_outer (He.glo_ok X G (c.fact 6 (f := .glo "outer") rfl)) (ok_outer U_outer b T G_scale) fun _ _ _ _ _ _ us hl => match us, hl with | [_, _], _ => rfl
  have G_add_term : Def P w K mg base (He.ga K "Ratio") 43 "add_term" ["matrix", "row", "weight"] sp_add_term := def_mk (st := s_add_term) (qual := "add_term") U_add_term (He.glo_ok X G (c.fact 7 (f := .glo "add_term") rfl)) (ok_add_term U_add_term b T G_sum_of G_scaled G_outer) fun _ _ _ _ _ _ us hl => match us, hl with | [_, _, _], _ => rfl
  have M_Net_tally : MethC P w K mg base (He.ga K "Ratio") 44 (adOf K).nt "tally" ["self", "reading", "weight"] (sp_Net_tally (adOf K)) := methC_of (st := s_Net_tally) (x := "tally") (qual := "Net.tally") U_Net_tally BK.nc (He.meth_ok (c.fact 71 (f := .meth "Net" "tally") rfl)) (ok_Net_tally U_Net_tally b T (BK) (EK) M_Net_row G_plus G_scale G_add_term G_dot_w) fun _ _ _ _ _ _ us hl => match us, hl with | [_, _, _], _ => rfl
  have G_is_zero : Def P w K mg base (He.ga K "Ratio") 41 "is_zero" ["a"] sp_is_zero := def_mk (st := s_is_zero) (qual := "is_zero") U_is_zero (He.glo_ok X G (c.fact 8 (f := .glo "is_zero") rfl)) (ok_is_zero U_is_zero b T) fun _ _ _ _ _ _ us hl => match us, hl with | [_], _ => rfl
  have G_minus : Def P w K mg base (He.ga K "Ratio") 41 "minus" ["a", "b"] sp_minus := def_mk (st := s_minus) (qual := "minus") U_minus (He.glo_ok X G (c.fact 9 (f := .glo "minus") rfl)) (ok_minus U_minus b T) fun _ _ _ _ _ _ us hl => match us, hl with | [_, _], _ => rfl
  have G_with_added_b : Def P w K mg base (He.ga K "Ratio") 43 "with_added" ["matrix", "inverse", "row", "weight"] sp_with_added_b := def_mk (st := s_with_added_b) (qual := "with_added") U_with_added_b (He.glo_ok X G (c.fact 10 (f := .glo "with_added") rfl)) (ok_with_added_b U_with_added_b b T OV G_sum_of G_scaled G_outer G_scale G_dot_w G_is_zero G_minus G_apply_w) fun _ _ _ _ _ _ us hl => match us, hl with | [_, _, _, _], _ => rfl
  have M_Net_put : MethC P w K mg base (He.ga K "Ratio") 45 (adOf K).nt "put" ["self", "reading"] (sp_Net_put (adOf K)) := methC_of (st := s_Net_put) (x := "put") (qual := "Net.put") U_Net_put BK.nc (He.meth_ok (c.fact 72 (f := .meth "Net" "put") rfl)) (ok_Net_put U_Net_put b T (BK) (EK) M_Net_tally M_Net_row G_with_added_b) fun _ _ _ _ _ _ us hl => match us, hl with | [_, _], _ => rfl
  have M_Net_add_48dc : MethC P w K mg base (He.ga K "Ratio") 46 (adOf K).nt "add" ["self", "reading"] (sp_Net_add_48dc (adOf K)) := methC_of (st := s_Net_add_48dc) (x := "add") (qual := "Net.add") U_Net_add_48dc BK.nc (He.meth_ok (c.fact 73 (f := .meth "Net" "add") rfl)) (ok_Net_add_48dc U_Net_add_48dc b T (BK) (EK) M_Net_put) fun _ _ _ _ _ _ us hl => match us, hl with | [_, _], _ => rfl
  have G_widened : Def P w K mg base (He.ga K "Ratio") 41 "widened" ["matrix"] sp_widened := def_mk (st := s_widened) (qual := "widened") U_widened (He.glo_ok X G (c.fact 11 (f := .glo "widened") rfl)) (ok_widened U_widened b T) fun _ _ _ _ _ _ us hl => match us, hl with | [_], _ => rfl
  have M_Net_add_point_5ee7 : MethC P w K mg base (He.ga K "Ratio") 42 (adOf K).nt "add_point" ["self", "name", "approximation"] (sp_Net_add_point_5ee7 (adOf K)) := methC_of (st := s_Net_add_point_5ee7) (x := "add_point") (qual := "Net.add_point") U_Net_add_point_5ee7 BK.nc (He.meth_ok (c.fact 74 (f := .meth "Net" "add_point") rfl)) (ok_Net_add_point_5ee7 U_Net_add_point_5ee7 b T (BK) (EK) G_widened) fun _ _ _ _ _ _ us hl => match us, hl with | [_, _, _], _ => rfl
  have N_Net___init__ : MkC P w K mg base (He.ga K "Ratio") 41 "Net" (adOf K).nt ["self"] (sp_Net___init__ (adOf K)) := mkC_of (st := s_Net___init__) (x := "__init__") (qual := "Net.__init__") U_Net___init__ (He.glo_ok X G (c.fact 59 (f := .glo "Net") rfl)) (He.mkr_ok (c.fact 60 (f := .mkr "Net") rfl)) (ok_Net___init__ U_Net___init__ b T (BK) (EK)) fun _ _ _ _ _ _ us hl => match us, hl with | [_], _ => rfl
  have G_law_same_e380 : Def P w K mg base (He.ga K "Ratio") 41 "_law_same" ["_law_first", "_law_second"] sp_law_same_e380 := def_mk (st := s_law_same_e380) (qual := "_law_same") U_law_same_e380 (He.glo_ok X G (c.fact 12 (f := .glo "_law_same") rfl)) (ok_law_same_e380 U_law_same_e380 b T) fun _ _ _ _ _ _ us hl => match us, hl with | [_, _], _ => rfl
  have G_law_same_vectors : Def P w K mg base (He.ga K "Ratio") 42 "_law_same_vectors" ["_law_first", "_law_second"] sp_law_same_vectors := def_mk (st := s_law_same_vectors) (qual := "_law_same_vectors") U_law_same_vectors (He.glo_ok X G (c.fact 13 (f := .glo "_law_same_vectors") rfl)) (ok_law_same_vectors U_law_same_vectors b T G_law_same_e380) fun _ _ _ _ _ _ us hl => match us, hl with | [_, _], _ => rfl
  have G_law_draw_82fd : Def P w K mg base (He.ga K "Ratio") 41 "_law_draw" ["_law_state_here", "_law_many"] sp_law_draw_82fd := def_mk (st := s_law_draw_82fd) (qual := "_law_draw") U_law_draw_82fd (He.glo_ok X G (c.fact 14 (f := .glo "_law_draw") rfl)) (ok_law_draw_82fd U_law_draw_82fd b T) fun _ _ _ _ _ _ us hl => match us, hl with | [_, _], _ => rfl
  have G_law_weight_w : Def P w K mg base (He.ga K "Ratio") 42 "_law_weight" ["_law_state_here"] sp_law_weight_w := def_mk (st := s_law_weight_w) (qual := "_law_weight") U_law_weight_w (He.glo_ok X G (c.fact 15 (f := .glo "_law_weight") rfl)) (ok_law_weight_w U_law_weight_w b T G_law_draw_82fd) fun _ _ _ _ _ _ us hl => match us, hl with | [_], _ => rfl
  have G_law_whole : Def P w K mg base (He.ga K "Ratio") 42 "_law_whole" ["_law_state_here"] sp_law_whole := def_mk (st := s_law_whole) (qual := "_law_whole") U_law_whole (He.glo_ok X G (c.fact 16 (f := .glo "_law_whole") rfl)) (ok_law_whole U_law_whole b T G_law_draw_82fd) fun _ _ _ _ _ _ us hl => match us, hl with | [_], _ => rfl
  have G_law_ratio_0f72 : Def P w K mg base (He.ga K "Ratio") 43 "_law_ratio" ["_law_state_here"] sp_law_ratio_0f72 := def_mk (st := s_law_ratio_0f72) (qual := "_law_ratio") U_law_ratio_0f72 (He.glo_ok X G (c.fact 17 (f := .glo "_law_ratio") rfl)) (ok_law_ratio_0f72 U_law_ratio_0f72 b T G_law_draw_82fd G_law_whole) fun _ _ _ _ _ _ us hl => match us, hl with | [_], _ => rfl
  have G_law_terms_6d2d : Def P w K mg base (He.ga K "Ratio") 42 "_law_terms" ["_law_state_here", "_law_names_here"] sp_law_terms_6d2d := def_mk (st := s_law_terms_6d2d) (qual := "_law_terms") U_law_terms_6d2d (He.glo_ok X G (c.fact 18 (f := .glo "_law_terms") rfl)) (ok_law_terms_6d2d U_law_terms_6d2d b T G_law_draw_82fd) fun _ _ _ _ _ _ us hl => match us, hl with | [_, _], _ => rfl
  have G_law_reading : Def P w K mg base (He.ga K "Ratio") 44 "_law_reading" ["_law_state_here", "_law_names_here", "_law_count"] (sp_law_reading (adOf K)) := def_mk (st := s_law_reading) (qual := "_law_reading") U_law_reading (He.glo_ok X G (c.fact 19 (f := .glo "_law_reading") rfl)) (ok_law_reading U_law_reading b T (BK) (EK) N_Reading___init__ G_law_weight_w G_law_ratio_0f72 G_law_terms_6d2d) fun _ _ _ _ _ _ us hl => match us, hl with | [_, _, _], _ => rfl
  have G_law_names_51c2 : Def P w K mg base (He.ga K "Ratio") 42 "_law_names" ["_law_state_here", "_law_most"] sp_law_names_51c2 := def_mk (st := s_law_names_51c2) (qual := "_law_names") U_law_names_51c2 (He.glo_ok X G (c.fact 20 (f := .glo "_law_names") rfl)) (ok_law_names_51c2 U_law_names_51c2 b T G_law_draw_82fd) fun _ _ _ _ _ _ us hl => match us, hl with | [_, _], _ => rfl
  have G_law_net_71f1 : Def P w K mg base (He.ga K "Ratio") 47 "_law_net" ["_law_state_here", "_law_most", "_law_many"] (sp_law_net_71f1 (adOf K)) := def_mk (st := s_law_net_71f1) (qual := "_law_net") U_law_net_71f1 (He.glo_ok X G (c.fact 21 (f := .glo "_law_net") rfl)) (ok_law_net_71f1 U_law_net_71f1 b T (BK) (EK) M_Net_add_48dc M_Net_add_point_5ee7 N_Net___init__ G_law_draw_82fd G_law_reading G_law_ratio_0f72 G_law_names_51c2) fun _ _ _ _ _ _ us hl => match us, hl with | [_, _, _], _ => rfl
  have G_law_state_87c3 : Def P w K mg base (He.ga K "Ratio") 41 "_law_state" ["_law_script"] sp_law_state_87c3 := def_mk (st := s_law_state_87c3) (qual := "_law_state") U_law_state_87c3 (He.glo_ok X G (c.fact 22 (f := .glo "_law_state") rfl)) (ok_law_state_87c3 U_law_state_87c3 b T) fun _ _ _ _ _ _ us hl => match us, hl with | [_], _ => rfl
  exact ok_law_c14d U_law_c14d b T (BK) (EK) M_Net_squares_0871 M_Net_heights N_Reading___init__ M_Net_add_48dc M_Net_add_point_5ee7 N_Net___init__ G_law_same_e380 G_law_same_vectors G_law_draw_82fd G_law_weight_w G_law_net_71f1 G_law_state_87c3
end DL
open PySem PySem.W PySem.Calls PyProof.Rows
theorem PySem.Challenge.cw_plumbnet_k81_whole_any_order_holds : PySem.Challenge.rw_plumbnet_k81_whole_any_order.Holds := by
  w_on; o_law
  refine HandSHeadRun.head_imp (r := DL.R) (q := view DL.R.prog [0, 47]) (H := DL.hk) (ob := DL.ob) (M := 4500) (loose := (["_wall", "SurveyError", "BadNumber", "ZeroDivisor", "UnknownPoint", "DuplicateName", "LimitReached", "MOST_DIGITS", "DIGITS", "read_digits", "Ratio", "Reading", "dot", "scale", "plus", "minus", "is_zero", "apply", "outer", "sum_of", "scaled", "add_term", "with_added", "MOST_POINTS", "MOST_READINGS", "widened", "Net", "_law_state", "_law_draw", "_law_whole"] : List PySem.Str) ++ (["_law_ratio", "_law_same", "_law_same_vectors", "_law_terms", "_law_weight", "_law_reading", "_law_names", "_law_net"] : List PySem.Str)) (d := HandSHeadRun.topDef DL.R.prog 47) (kwd := []) DL.ob_eq
    DL.run (by kernel_rfl) (by kernel_rfl) (by kernel_rfl) (by rfl) (by first | assumption | decide +kernel) (by decide +kernel) ⟨rfl, rfl, rfl, rfl, rfl, by decide +kernel⟩ ?hw ?hc
  case hw => w_witness2
  case hc =>
    refine DL.walkD (l := PySem.Challenge.rw_plumbnet_k81_whole_any_order) (n := 63) (k := 48) (x := "_law_script") DL.sp_law_c14d rfl (by decide) (by kernel_rfl) ⟨rfl, by decide, by decide⟩ (fun ns M hl => ⟨ns, rfl, hl, fun _ => rfl⟩) ?F
    intro w mg fa h Y G hm0
    obtain ⟨K, KX, ⟨cr, c⟩, ca⟩ := Y
    obtain ⟨cr, c_dup⟩ := He.ba cr
    obtain ⟨c_dup, c_up⟩ := He.ba c_dup
    obtain ⟨c_up, c_lim⟩ := He.ba c_up
    have hm : mg ("law" : PySem.Str) = some (.ref fa) := by
      have e : (HandSHeadRun.topDef DL.R.prog 47).name = ("law" : PySem.Str) := by kernel_rfl
      rw [← e]; exact hm0
    obtain ⟨fd, hb, hF⟩ := DL.facts (P := (PySem.Challenge.rw_plumbnet_k81_whole_any_order).prog) (w := w) KX G hm c cr (by kernel_rfl) c_dup c_up c_lim
    exact ⟨K, fd, He.ga K "Ratio", KX, hb, hF⟩

