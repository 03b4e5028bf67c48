import PyProof.Rows.All
import Wide.All
import OpenK.AllK
import Wide.FinOn
import KE.KStateDown
import Lean
import HandS.Head0
import HandS.Head1
import HandS.Head2
import HandS.HeadEnd
import HandS.HeadHook1
import HandS.HeadHook2
import HandS.ForMost
import HandS.Wide
import HandS.Walk
import HandS.Style
import HandS.IsInst
import HandS.TupAny
import HandS.Defaults
import HandS.Exc
import PySem.Challenge.RW_roundwords_k29_weights
set_option Elab.async false
set_option linter.all false
set_option maxRecDepth 100000
/-! Deep readings: what a body does, told over whole data instead of addresses. -/
namespace DL
open PySem PySem.Spec PyProof.Rows L2

/-- whole data -/
inductive D where
  | non | bl (b : Bool) | int (i : Int) | str (x : Str)
  | tup (xs : List D) | lst (xs : List D) | dic (es : List (Key × D)) | obj (c : Str) (fs : List (Str × D)) | purse | scr (xs : List D)
  deriving Inhabited

/-- a world: what stands still, and the purse -/
structure Wd where
  F : Hp
  U : Option (Addr × Addr)

/-- what stands about: the module's names, the written part -/
structure Gm where
  mg : Str → Option Value
  K : PySem.W.Frag
abbrev gm (X : Cx) : Gm := ⟨X.mg, X.K⟩

section
variable (mg : Gm) (W : Wd)
mutual
inductive Rel : V → D → Prop
  | non : Rel .non .non
  | bl (b : Bool) : Rel (.bl b) (.bl b)
  | int (i : Int) : Rel (.int i) (.int i)
  | str (x : Str) : Rel (.str x) (.str x)
  | tup {a : Addr} {vs : List V} {ds : List D} : W.F a = some (.tup vs) → RelL vs ds → Rel (.ref a) (.tup ds)
  | lst {a : Addr} {vs : List V} {ds : List D} : W.F a = some (.lst vs) → RelL vs ds → Rel (.ref a) (.lst ds)
  | dic {a : Addr} {kvs : List (Key × V)} {es : List (Key × D)} : W.F a = some (.dK kvs) → RelK kvs es → Rel (.ref a) (.dic es)
  | obj {a C dx : Addr} {kvs : List (Str × V)} {c : Str} {fs : List (Str × D)} : W.F a = some (.ins C dx kvs) → mg.mg c = some (.ref C) → RelA kvs fs → Rel (.ref a) (.obj c fs)
  | purse {a g : Addr} : W.U = some (a, g) → Rel (.ref a) .purse
  | scr {a : Addr} {vs : List V} {ds : List D} : SqL mg.K W.F a vs → RelL vs ds → Rel (.ref a) (.scr ds)
inductive RelL : List V → List D → Prop
  | nil : RelL [] []
  | cons {v : V} {vs : List V} {d : D} {ds : List D} : Rel v d → RelL vs ds → RelL (v :: vs) (d :: ds)
inductive RelK : List (Key × V) → List (Key × D) → Prop
  | nil : RelK [] []
  | cons {k : Key} {v : V} {vs : List (Key × V)} {d : D} {ds : List (Key × D)} : Rel v d → RelK vs ds → RelK ((k, v) :: vs) ((k, d) :: ds)
inductive RelA : List (Str × V) → List (Str × D) → Prop
  | nil : RelA [] []
  | cons {k : Str} {v : V} {vs : List (Str × V)} {d : D} {ds : List (Str × D)} : Rel v d → RelA vs ds → RelA ((k, v) :: vs) ((k, d) :: ds)
end
end

/-- worlds that grow -/
structure Wle (W W' : Wd) : Prop where
  mono : ∀ a o, W.F a = some o → W'.F a = some o
  u : ∀ x, W.U = some x → W'.U = some x
theorem Wle.refl (W : Wd) : Wle W W := ⟨fun _ _ h => h, fun _ h => h⟩
theorem Wle.trans {W W' W'' : Wd} (a : Wle W W') (b : Wle W' W'') : Wle W W'' := ⟨fun c o h => b.mono c o (a.mono c o h), fun x h => b.u x (a.u x h)⟩

section
variable {mg : Gm} {W W' : Wd}
mutual
theorem Rel.mono (l : Wle W W') : ∀ {v : V} {d : D}, Rel mg W v d → Rel mg W' v d
  | _, _, .non => .non
  | _, _, .bl b => .bl b
  | _, _, .int i => .int i
  | _, _, .str x => .str x
  | _, _, .tup h r => .tup (l.mono _ _ h) (RelL.mono l r)
  | _, _, .lst h r => .lst (l.mono _ _ h) (RelL.mono l r)
  | _, _, .dic h r => .dic (l.mono _ _ h) (RelK.mono l r)
  | _, _, .obj h c r => .obj (l.mono _ _ h) c (RelA.mono l r)
  | _, _, .purse h => .purse (l.u _ h)
  | _, _, .scr h r => .scr (Same.seq l.mono h) (RelL.mono l r)
theorem RelL.mono (l : Wle W W') : ∀ {vs : List V} {ds : List D}, RelL mg W vs ds → RelL mg W' vs ds
  | _, _, .nil => .nil
  | _, _, .cons h t => .cons (Rel.mono l h) (RelL.mono l t)
theorem RelK.mono (l : Wle W W') : ∀ {vs : List (Key × V)} {ds : List (Key × D)}, RelK mg W vs ds → RelK mg W' vs ds
  | _, _, .nil => .nil
  | _, _, .cons h t => .cons (Rel.mono l h) (RelK.mono l t)
theorem RelA.mono (l : Wle W W') : ∀ {vs : List (Str × V)} {ds : List (Str × D)}, RelA mg W vs ds → RelA mg W' vs ds
  | _, _, .nil => .nil
  | _, _, .cons h t => .cons (Rel.mono l h) (RelA.mono l t)
end
theorem RelL.length : ∀ {vs : List V} {ds : List D}, RelL mg W vs ds → vs.length = ds.length
  | _, _, .nil => rfl
  | _, _, .cons _ t => congrArg (· + 1) (RelL.length t)
theorem RelL.get : ∀ {vs : List V} {ds : List D} {i : Nat} {d : D}, RelL mg W vs ds → ds[i]? = some d → ∃ v, vs[i]? = some v ∧ Rel mg W v d
  | _, _, _, _, .nil, e => by simp at e
  | _, _, 0, _, .cons r _, e => by simp at e; subst e; exact ⟨_, rfl, r⟩
  | _, _, i + 1, d, .cons _ t, e => by
    obtain ⟨v, h1, h2⟩ := RelL.get (i := i) (d := d) t (by simpa using e)
    exact ⟨v, by simpa using h1, h2⟩
theorem RelL.getV : ∀ {vs : List V} {ds : List D} {i : Nat} {v : V}, RelL mg W vs ds → vs[i]? = some v → ∃ d, ds[i]? = some d ∧ Rel mg W v d
  | _, _, _, _, .nil, e => by simp at e
  | _, _, 0, _, .cons r _, e => by simp at e; subst e; exact ⟨_, rfl, r⟩
  | _, _, i + 1, d, .cons _ t, e => by
    obtain ⟨v, h1, h2⟩ := RelL.getV (i := i) (v := d) t (by simpa using e)
    exact ⟨v, by simpa using h1, h2⟩
theorem RelL.set {v : V} {d : D} (r : Rel mg W v d) : ∀ {vs : List V} {ds : List D} (i : Nat), RelL mg W vs ds → RelL mg W (vs.set i v) (ds.set i d)
  | _, _, _, .nil => .nil
  | _, _, 0, .cons _ t => .cons r t
  | _, _, i + 1, .cons q t => .cons q (RelL.set r i t)
theorem RelL.append : ∀ {vs vs' : List V} {ds ds' : List D}, RelL mg W vs ds → RelL mg W vs' ds' → RelL mg W (vs ++ vs') (ds ++ ds')
  | _, _, _, _, .nil, s => s
  | _, _, _, _, .cons r t, s => .cons r (RelL.append t s)
theorem RelL.take : ∀ {vs : List V} {ds : List D} (n : Nat), RelL mg W vs ds → RelL mg W (vs.take n) (ds.take n)
  | _, _, 0, _ => .nil
  | _, _, _ + 1, .nil => .nil
  | _, _, n + 1, .cons r t => .cons r (RelL.take n t)
theorem RelL.drop : ∀ {vs : List V} {ds : List D} (n : Nat), RelL mg W vs ds → RelL mg W (vs.drop n) (ds.drop n)
  | _, _, 0, r => r
  | _, _, _ + 1, .nil => .nil
  | _, _, n + 1, .cons _ t => RelL.drop n t
theorem RelL.reverse : ∀ {vs : List V} {ds : List D}, RelL mg W vs ds → RelL mg W vs.reverse ds.reverse
  | _, _, .nil => .nil
  | _, _, .cons r t => by rw [List.reverse_cons, List.reverse_cons]; exact (RelL.reverse t).append (.cons r .nil)
theorem RelL.ints : ∀ {vs : List V} {is : List Int}, RelL mg W vs (is.map D.int) → vs = is.map V.int
  | [], [], _ => rfl
  | _, _ :: _, .cons (.int _) t => by rw [List.map_cons, RelL.ints t]
theorem RelL.bls : ∀ {vs : List V} {is : List Bool}, RelL mg W vs (is.map D.bl) → vs = is.map V.bl
  | [], [], _ => rfl
  | _, _ :: _, .cons (.bl _) t => by rw [List.map_cons, RelL.bls t]
theorem relL_ints : ∀ (is : List Int), RelL mg W (is.map V.int) (is.map D.int)
  | [] => .nil
  | i :: r => .cons (.int i) (relL_ints r)
theorem relL_rep {v : V} {d : D} (r : Rel mg W v d) : ∀ n : Nat, RelL mg W (List.replicate n v) (List.replicate n d)
  | 0 => .nil
  | n + 1 => .cons r (relL_rep r n)
end

/-! ### worlds over heaps -/
/-- what is kept of the purse's numbers -/
structure PInv (s t : Int) (xs : List Int) : Prop where
  s0 : 0 ≤ s
  s1 : s < 2305843009213693951
  t0 : 0 ≤ t
  len : xs.length ≤ 63
  nn : ∀ x ∈ xs, 0 ≤ x
  sm : ∀ x ∈ xs, x < 10 ^ 120
structure PurseAt (F H : Hp) (a g : Addr) : Prop where
  fa : F a = none
  fg : F g = none
  ne : a ≠ g
  here : ∃ (s t : Int) (xs : List Int), H a = some (.lst [.ref g, .int s, .int t]) ∧ H g = some (.lst (xs.map V.int)) ∧ PInv s t xs
structure WOk (W : Wd) (H : Hp) : Prop where
  sub : ∀ a o, W.F a = some o → H a = some o
  pu : ∀ a g, W.U = some (a, g) → PurseAt W.F H a g
def NotP (W : Wd) (a : Addr) : Prop := ∀ x g, W.U = some (x, g) → a ≠ x ∧ a ≠ g
/-- what an evaluation leaves -/
structure Up (W : Wd) (H : Hp) (W' : Wd) (H' : Hp) : Prop where
  mono : ∀ a o, W.F a = some o → W'.F a = some o
  keep : ∀ a o, H a = some o → NotP W a → H' a = some o
  dom : ∀ a, H' a = none → H a = none
  u : W'.U = W.U ∨ (W.U = none ∧ ∀ x g, W'.U = some (x, g) → H x = none ∧ H g = none)
structure Ext (W : Wd) (H : Hp) (W' : Wd) (H' : Hp) : Prop extends Up W H W' H' where
  new : ∀ a o, W'.F a = some o → W.F a = none → H a = none
section
variable {W W1 W2 : Wd} {H H1 H2 : Hp} {a : Addr} {o : HO}
theorem Up.refl (W : Wd) (H : Hp) : Up W H W H := ⟨fun _ _ h => h, fun _ _ h _ => h, fun _ h => h, .inl rfl⟩
theorem Up.le (e : Up W H W1 H1) : Wle W W1 := ⟨e.mono, fun x hx => by
  rcases e.u with h | ⟨h, _⟩
  · rw [h]; exact hx
  · rw [h] at hx; cases hx⟩
theorem Up.notP (e : Up W H W1 H1) (h : H a = some o) (n : NotP W a) : NotP W1 a := fun x g hu => by
  rcases e.u with q | ⟨_, q⟩
  · rw [q] at hu; exact n x g hu
  · obtain ⟨h1, h2⟩ := q x g hu
    exact ⟨ne_of_none h h1, ne_of_none h h2⟩
theorem Up.trans (e : Up W H W1 H1) (f : Up W1 H1 W2 H2) : Up W H W2 H2 := ⟨fun a o h => f.mono a o (e.mono a o h), fun a o h n => f.keep a o (e.keep a o h n) (e.notP h n), fun a h => e.dom a (f.dom a h), by
  rcases f.u with q | ⟨q, r⟩
  · rcases e.u with p | ⟨p, p2⟩
    · exact .inl (q.trans p)
    · exact .inr ⟨p, fun x g hu => p2 x g (by rw [← q]; exact hu)⟩
  · refine .inr ⟨?_, fun x g hu => ⟨e.dom x (r x g hu).1, e.dom g (r x g hu).2⟩⟩
    rcases e.u with p | ⟨p, _⟩
    · rw [← p]; exact q
    · exact p⟩
theorem Ext.refl (W : Wd) (H : Hp) : Ext W H W H := ⟨Up.refl W H, fun _ _ h n => by rw [h] at n; cases n⟩
theorem Ext.trans (e : Ext W H W1 H1) (f : Ext W1 H1 W2 H2) : Ext W H W2 H2 := ⟨e.toUp.trans f.toUp, fun a o h n => by
  cases q : W1.F a with
  | none => exact e.dom a (f.new a o h q)
  | some u => exact e.new a u q n⟩
theorem Ext.le (e : Ext W H W1 H1) : Wle W W1 := e.toUp.le
theorem WOk.free (w : WOk W H) (h : H a = none) : W.F a = none := by
  cases q : W.F a with
  | none => rfl
  | some u => rw [w.sub a u q] at h; cases h
theorem WOk.notP_new (w : WOk W H) (h : H a = none) : NotP W a := fun x g hu => by
  obtain ⟨_, _, _, s, t, xs, h1, h2, _⟩ := w.pu x g hu
  exact ⟨(ne_of_none h1 h).symm, (ne_of_none h2 h).symm⟩
/-- a thing of F isn't the purse -/
theorem WOk.notP_F (w : WOk W H) (h : W.F a = some o) : NotP W a := fun x g hu => by
  have p := w.pu x g hu
  exact ⟨ne_of_none h p.fa, ne_of_none h p.fg⟩
/-- a new object that stands still from now on -/
def Wd.add (W : Wd) (a : Addr) (o : HO) : Wd := ⟨upd W.F a o, W.U⟩
theorem add_ext (w : WOk W H) (h : H a = none) (o : HO) : Ext W H (W.add a o) (upd H a o) := ⟨⟨fun b u q => by
    show upd W.F a o b = some u
    rw [upd_ne (ne_of_none (w.sub b u q) h)]; exact q, fun b u q _ => by rw [upd_ne (ne_of_none q h)]; exact q, fun b q => by
    by_cases e : b = a
    · subst e; exact h
    · rw [upd_ne e] at q; exact q, .inl rfl⟩, fun b u q n => by
    by_cases e : b = a
    · subst e; exact h
    · have q2 : upd W.F a o b = some u := q
      rw [upd_ne e, n] at q2; cases q2⟩
theorem add_ok (w : WOk W H) (h : H a = none) (o : HO) : WOk (W.add a o) (upd H a o) := ⟨fun b u q => by
    have q2 : upd W.F a o b = some u := q
    by_cases e : b = a
    · subst e; rw [upd_same] at q2 ⊢; exact q2
    · rw [upd_ne e] at q2 ⊢; exact w.sub b u q2, fun x g hu => by
    obtain ⟨f1, f2, ne, s, t, xs, h1, h2, h3⟩ := w.pu x g hu
    have n1 := ne_of_none h1 h
    have n2 := ne_of_none h2 h
    exact ⟨by show upd W.F a o x = none; rw [upd_ne n1]; exact f1, by show upd W.F a o g = none; rw [upd_ne n2]; exact f2, ne, s, t, xs, by rw [upd_ne n1]; exact h1, by rw [upd_ne n2]; exact h2, h3⟩⟩
/-- a new object that is the frame's own -/
theorem new_ext (w : WOk W H) (h : H a = none) (o : HO) : Ext W H W (upd H a o) := ⟨⟨fun b u q => q, fun b u q _ => by rw [upd_ne (ne_of_none q h)]; exact q, fun b q => by
    by_cases e : b = a
    · subst e; exact h
    · rw [upd_ne e] at q; exact q, .inl rfl⟩, fun b u q n => by rw [n] at q; cases q⟩
/-- a store to what is neither still nor the purse -/
theorem WOk.store (w : WOk W H) (h : W.F a = none) (n : NotP W a) (o : HO) : WOk W (upd H a o) := ⟨fun b u q => by rw [upd_ne (ne_of_none q h)]; exact w.sub b u q, fun x g hu => by
    obtain ⟨f1, f2, ne, s, t, xs, h1, h2, h3⟩ := w.pu x g hu
    obtain ⟨n1, n2⟩ := n x g hu
    exact ⟨f1, f2, ne, s, t, xs, by rw [upd_ne (Ne.symm n1)]; exact h1, by rw [upd_ne (Ne.symm n2)]; exact h2, h3⟩⟩
theorem WOk.new (w : WOk W H) (h : H a = none) (o : HO) : WOk W (upd H a o) := w.store (w.free h) (w.notP_new h) o
/-- what was the frame's own stands still from now on -/
theorem WOk.freeze (w : WOk W H) (h : H a = some o) (n : NotP W a) : WOk (W.add a o) H := ⟨fun b u q => by
    have q2 : upd W.F a o b = some u := q
    by_cases e : b = a
    · subst e; rw [upd_same] at q2; rw [← q2]; exact h
    · rw [upd_ne e] at q2; exact w.sub b u q2, fun x g hu => by
    obtain ⟨f1, f2, ne, r⟩ := w.pu x g hu
    obtain ⟨n1, n2⟩ := n x g hu
    exact ⟨by show upd W.F a o x = none; rw [upd_ne (Ne.symm n1)]; exact f1, by show upd W.F a o g = none; rw [upd_ne (Ne.symm n2)]; exact f2, ne, r⟩⟩
theorem freeze_up (h : W.F a = none) (o : HO) : Up W H (W.add a o) H := ⟨fun b u q => by
    show upd W.F a o b = some u
    rw [upd_ne (ne_of_none q h)]; exact q, fun _ _ q _ => q, fun _ q => q, .inl rfl⟩
end

/-! ### frames -/
inductive Sl where
  | im (d : D)
  | ow (xs : List D)
abbrev Rh := List (Option Sl)
/-- what an expression gives: still data; a new list that nobody else holds; the own list of slot i -/
inductive R where
  | im (d : D)
  | fr (xs : List D)
  | al (i : Nat) (xs : List D)
def R.d : R → D
  | .im d => d
  | .fr xs => .lst xs
  | .al _ xs => .lst xs

structure EnvOk (mg : Gm) (W0 : Wd) (H0 : Hp) (W : Wd) (H : Hp) (σ : L2.St) (ρ : Rh) : Prop where
  wok : WOk W H
  ext : Ext W0 H0 W H
  len : σ.length = ρ.length
  im : ∀ (i : Nat) (d : D), ρ[i]? = some (some (Sl.im d)) → ∃ v : V, σ[i]? = some (some v) ∧ Rel mg W v d
  ow : ∀ (i : Nat) (xs : List D), ρ[i]? = some (some (Sl.ow xs)) → ∃ (a : Addr) (vs : List V), σ[i]? = some (some (V.ref a)) ∧ H a = some (.lst vs) ∧ W.F a = none ∧ NotP W a ∧ H0 a = none ∧ RelL mg W vs xs
  sep : ∀ (i j : Nat) (xs ys : List D) (a : Addr), ρ[i]? = some (some (Sl.ow xs)) → ρ[j]? = some (some (Sl.ow ys)) → σ[i]? = some (some (V.ref a)) → σ[j]? = some (some (V.ref a)) → i = j

/-- a value read as whole data, where its list may be somebody's own -/
def RelH (mg : Gm) (W : Wd) (H : Hp) (v : V) (d : D) : Prop := Rel mg W v d ∨ ∃ (a : Addr) (vs : List V) (xs : List D), v = .ref a ∧ d = .lst xs ∧ H a = some (.lst vs) ∧ NotP W a ∧ RelL mg W vs xs

def RR (mg : Gm) (Hs : Hp) (W : Wd) (H : Hp) (σ : L2.St) (ρ : Rh) (v : V) : R → Prop
  | .im d => Rel mg W v d
  | .fr xs => ∃ (a : Addr) (vs : List V), v = .ref a ∧ H a = some (.lst vs) ∧ W.F a = none ∧ NotP W a ∧ Hs a = none ∧ RelL mg W vs xs ∧ ∀ (i : Nat) (ys : List D), ρ[i]? = some (some (Sl.ow ys)) → σ[i]? ≠ some (some (V.ref a))
  | .al i xs => ρ[i]? = some (some (Sl.ow xs)) ∧ σ[i]? = some (some v)
/-- .. out of an operation, H ahead of it -/
def RF (mg : Gm) (H : Hp) (W' : Wd) (H' : Hp) (v : V) : R → Prop
  | .im d => Rel mg W' v d
  | .fr xs => ∃ (a : Addr) (vs : List V), v = .ref a ∧ H a = none ∧ H' a = some (.lst vs) ∧ W'.F a = none ∧ NotP W' a ∧ RelL mg W' vs xs
  | .al _ _ => False
/-- what an expression's evaluation leaves -/
structure Stp (σ : L2.St) (ρ : Rh) (W : Wd) (H : Hp) (ρ' : Rh) (W' : Wd) (H' : Hp) : Prop extends Up W H W' H' where
  new : ∀ a o, W'.F a = some o → W.F a = none → H a = none ∨ ∃ (i : Nat) (xs : List D), ρ[i]? = some (some (Sl.ow xs)) ∧ σ[i]? = some (some (V.ref a))
  lat : ∀ (i : Nat) (xs : List D), ρ'[i]? = some (some (Sl.ow xs)) → ρ[i]? = some (some (Sl.ow xs))

section
variable {mg : Gm} {W0 W W1 W2 W' : Wd} {H0 Hs H H1 H2 H' : Hp} {σ : L2.St} {ρ ρ1 ρ2 : Rh} {v : V} {d : D} {r : R}
theorem Stp.refl : Stp σ ρ W H ρ W H := ⟨Up.refl W H, fun _ _ h n => (by rw [h] at n; cases n), fun _ _ h => h⟩
theorem Stp.trans (e : Stp σ ρ W H ρ1 W1 H1) (f : Stp σ ρ1 W1 H1 ρ2 W2 H2) : Stp σ ρ W H ρ2 W2 H2 := ⟨e.toUp.trans f.toUp, fun a o h n => by
  cases q : W1.F a with
  | some u => exact e.new a u q n
  | none =>
    rcases f.new a o h q with h | ⟨i, xs, h1, h2⟩
    · exact .inl (e.dom a h)
    · exact .inr ⟨i, xs, e.lat i xs h1, h2⟩, fun i xs h => e.lat i xs (f.lat i xs h)⟩
theorem Ext.stp (e : Ext W H W' H') : Stp σ ρ W H ρ W' H' := ⟨e.toUp, fun a o h n => .inl (e.new a o h n), fun _ _ h => h⟩
theorem EnvOk.step (I : EnvOk mg W0 H0 W H σ ρ) (e : Ext W H W' H') (w : WOk W' H') : EnvOk mg W0 H0 W' H' σ ρ where
  wok := w
  ext := I.ext.trans e
  len := I.len
  im := fun i d h => let ⟨v, h1, h2⟩ := I.im i d h; ⟨v, h1, h2.mono e.le⟩
  ow := fun i xs h => by
    obtain ⟨a, vs, h1, h2, h3, h4, h5, h6⟩ := I.ow i xs h
    refine ⟨a, vs, h1, e.keep a _ h2 h4, ?_, e.notP h2 h4, h5, h6.mono e.le⟩
    cases q : W'.F a with
    | none => rfl
    | some u => rw [e.new a u q h3] at h2; cases h2
  sep := I.sep
theorem RelH.up (h : RelH mg W H v d) (e : Up W H W' H') : RelH mg W' H' v d := by
  rcases h with h | ⟨a, vs, xs, e1, e2, h3, h4, h5⟩
  · exact .inl (h.mono e.le)
  · exact .inr ⟨a, vs, xs, e1, e2, e.keep a _ h3 h4, e.notP h3 h4, h5.mono e.le⟩
theorem RR.relH (h : RR mg Hs W H σ ρ v r) (I : EnvOk mg W0 H0 W H σ ρ) : RelH mg W H v r.d := by
  cases r with
  | im d => exact .inl h
  | fr xs =>
    obtain ⟨a, vs, h1, h2, h3, h4, h5, h6, _⟩ := h
    exact .inr ⟨a, vs, xs, h1, rfl, h2, h4, h6⟩
  | al i xs =>
    obtain ⟨h1, h2⟩ := h
    obtain ⟨a, vs, q1, q2, q3, q4, q5, q6⟩ := I.ow i xs h1
    rw [h2] at q1
    exact .inr ⟨a, vs, xs, Option.some.inj (Option.some.inj q1), rfl, q2, q4, q6⟩
theorem RR.back (h : RR mg H1 W' H' σ ρ v r) (e : ∀ a, H1 a = none → H a = none) : RR mg H W' H' σ ρ v r := by
  cases r with
  | im d => exact h
  | fr xs =>
    obtain ⟨a, vs, h1, h2, h3, h4, h5, h6⟩ := h
    exact ⟨a, vs, h1, h2, h3, h4, e a h5, h6⟩
  | al i xs => exact h
theorem RF.rr (h : RF mg H W' H' v r) (I : EnvOk mg W0 H0 W H σ ρ) : RR mg H W' H' σ ρ v r := by
  cases r with
  | im d => exact h
  | fr xs =>
    obtain ⟨a, vs, h1, h2, h3, h4, h5, h6⟩ := h
    refine ⟨a, vs, h1, h3, h4, h5, h2, h6, fun i ys q s => ?_⟩
    obtain ⟨b, us, q1, q2, _⟩ := I.ow i ys q
    rw [s] at q1
    cases q1
    rw [h2] at q2; cases q2
  | al i xs => exact h.elim
def R.out : R → R
  | .al _ xs => .fr xs
  | r => r
/-- at a def's end -/
theorem RR.rf (h : RR mg Hs W H σ ρ v r) (I : EnvOk mg W0 H0 W H σ ρ) (hd : ∀ a, Hs a = none → H0 a = none) : RF mg H0 W H v r.out := by
  cases r with
  | im d => exact h
  | fr xs =>
    obtain ⟨a, vs, h1, h2, h3, h4, h5, h6, _⟩ := h
    exact ⟨a, vs, h1, hd a h5, h2, h3, h4, h6⟩
  | al i xs =>
    obtain ⟨h1, h2⟩ := h
    obtain ⟨a, vs, q1, q2, q3, q4, q5, q6⟩ := I.ow i xs h1
    rw [h2] at q1
    exact ⟨a, vs, Option.some.inj (Option.some.inj q1), q5, q2, q3, q4, q6⟩
/-- to still data: the own list of a slot is its own no more -/
def frz (r : R) (ρ : Rh) : Rh := match r with
  | .al i xs => ρ.set i (some (.im (.lst xs)))
  | _ => ρ
theorem get_set {α : Type} {l : List α} {i j : Nat} {x y : α} (h : (l.set i x)[j]? = some y) : (i = j ∧ x = y ∧ i < l.length) ∨ (i ≠ j ∧ l[j]? = some y) := by
  by_cases e : i = j
  · subst e
    have hl : i < l.length := by
      have := (List.getElem?_eq_some_iff.mp h).1
      simpa using this
    rw [List.getElem?_set_self hl] at h
    exact .inl ⟨rfl, Option.some.inj h, hl⟩
  · rw [List.getElem?_set_ne e] at h
    exact .inr ⟨e, h⟩
theorem RR.settle (h : RR mg Hs W H σ ρ v r) (I : EnvOk mg W0 H0 W H σ ρ) (hd : ∀ a, Hs a = none → H0 a = none) : ∃ W', EnvOk mg W0 H0 W' H σ (frz r ρ) ∧ Up W H W' H ∧ Rel mg W' v r.d ∧
    (∀ a o, W'.F a = some o → W.F a = none → Hs a = none ∨ ∃ (i : Nat) (xs : List D), ρ[i]? = some (some (Sl.ow xs)) ∧ σ[i]? = some (some (V.ref a))) ∧ (∀ (i : Nat) (xs : List D), (frz r ρ)[i]? = some (some (Sl.ow xs)) → ρ[i]? = some (some (Sl.ow xs))) := by
  cases r with
  | im d => exact ⟨W, I, Up.refl _ _, h, fun a o h n => (by rw [h] at n; cases n), fun _ _ h => h⟩
  | fr xs =>
    obtain ⟨a, vs, h1, h2, h3, h4, h5, h6, h7⟩ := h
    have up : Up W H (W.add a (.lst vs)) H := freeze_up h3 _
    subst h1
    refine ⟨W.add a (.lst vs), ⟨I.wok.freeze h2 h4, ?_, I.len, fun i d q => let ⟨v, e1, e2⟩ := I.im i d q; ⟨v, e1, e2.mono up.le⟩, fun i ys q => ?_, I.sep⟩, up, .lst upd_same (h6.mono up.le), fun b o q n => ?_, fun _ _ h => h⟩
    · refine ⟨I.ext.toUp.trans up, fun b o q n => ?_⟩
      by_cases e : b = a
      · subst e; exact hd _ h5
      · have q2 : upd W.F a (.lst vs) b = some o := q
        rw [upd_ne e] at q2
        exact I.ext.new b o q2 n
    · obtain ⟨b, us, q1, q2, q3, q4, q5, q6⟩ := I.ow i ys q
      refine ⟨b, us, q1, q2, ?_, q4, q5, q6.mono up.le⟩
      show upd W.F a (.lst vs) b = none
      rw [upd_ne (fun e => h7 i ys q (by rw [q1, e]))]
      exact q3
    · by_cases e : b = a
      · subst e; exact .inl h5
      · have q2 : upd W.F a (.lst vs) b = some o := q
        rw [upd_ne e, n] at q2; cases q2
  | al i xs =>
    obtain ⟨h1, h2⟩ := h
    obtain ⟨a, vs, q1, q2, q3, q4, q5, q6⟩ := I.ow i xs h1
    have ev : v = .ref a := by rw [h2] at q1; exact Option.some.inj (Option.some.inj q1)
    subst ev
    have up : Up W H (W.add a (.lst vs)) H := freeze_up q3 _
    refine ⟨W.add a (.lst vs), ⟨I.wok.freeze q2 q4, ?_, by show σ.length = (ρ.set i _).length; rw [List.length_set]; exact I.len, fun j d q => ?_, fun j ys q => ?_, fun j k ys zs b hj hk => ?_⟩, up, .lst upd_same (q6.mono up.le), fun b o q n => ?_, fun j ys q => ?_⟩
    · refine ⟨I.ext.toUp.trans up, fun b o q n => ?_⟩
      by_cases e : b = a
      · subst e; exact q5
      · have p2 : upd W.F a (.lst vs) b = some o := q
        rw [upd_ne e] at p2
        exact I.ext.new b o p2 n
    · rcases get_set q with ⟨e, e2, _⟩ | ⟨e, q⟩
      · subst e
        cases e2
        exact ⟨_, h2, .lst upd_same (q6.mono up.le)⟩
      · obtain ⟨v, e1, e2⟩ := I.im j d q
        exact ⟨v, e1, e2.mono up.le⟩
    · rcases get_set q with ⟨e, e2, _⟩ | ⟨e, q⟩
      · cases e2
      · obtain ⟨b, us, p1, p2, p3, p4, p5, p6⟩ := I.ow j ys q
        refine ⟨b, us, p1, p2, ?_, p4, p5, p6.mono up.le⟩
        show upd W.F a (.lst vs) b = none
        rw [upd_ne (fun e3 => e (I.sep i j xs ys a h1 q h2 (by rw [p1, e3])))]
        exact p3
    · rcases get_set hj with ⟨_, e2, _⟩ | ⟨_, hj⟩
      · cases e2
      · rcases get_set hk with ⟨_, e2, _⟩ | ⟨_, hk⟩
        · cases e2
        · exact I.sep j k ys zs b hj hk
    · by_cases e : b = a
      · subst e; exact .inr ⟨i, xs, h1, h2⟩
      · have p2 : upd W.F a (.lst vs) b = some o := q
        rw [upd_ne e, n] at p2; cases p2
    · rcases get_set q with ⟨e, e2, _⟩ | ⟨e, q⟩
      · cases e2
      · exact q
/-- a value's evaluation, then to still data -/
theorem Stp.settle (e : Stp σ ρ W H ρ1 W1 H1) (I0 : EnvOk mg W0 H0 W H σ ρ) (I : EnvOk mg W0 H0 W1 H1 σ ρ1) (h : RR mg H W1 H1 σ ρ1 v r) : ∃ W2, EnvOk mg W0 H0 W2 H1 σ (frz r ρ1) ∧ Stp σ ρ W H (frz r ρ1) W2 H1 ∧ Rel mg W2 v r.d := by
  obtain ⟨W2, I2, u, hr, hn, hl⟩ := h.settle I (fun a q => I0.ext.dom a q)
  refine ⟨W2, I2, ⟨e.toUp.trans u, fun a o q n => ?_, fun i xs q => e.lat i xs (hl i xs q)⟩, hr⟩
  cases q2 : W1.F a with
  | some u => exact e.new a u q2 n
  | none =>
    rcases hn a o q q2 with h | ⟨i, xs, h1, h2⟩
    · exact .inl h
    · exact .inr ⟨i, xs, e.lat i xs h1, h2⟩
/-- what is stored to slot i -/
def store (i : Nat) (r : R) (ρ : Rh) : Rh := match r with
  | .im d => ρ.set i (some (.im d))
  | .fr xs => ρ.set i (some (.ow xs))
  | .al j xs => (ρ.set j (some (.im (.lst xs)))).set i (some (.im (.lst xs)))
theorem get_setO {α : Type} {l : List (Option α)} {i j : Nat} {x : α} {y : Option α} (h : l[j]? = some y) (e : i ≠ j) : (l.set i (some x))[j]? = some y := by rw [List.getElem?_set_ne e]; exact h
theorem EnvOk.put_im (I : EnvOk mg W0 H0 W H σ ρ) (i : Nat) (h : Rel mg W v d) : EnvOk mg W0 H0 W H (σ.set i (some v)) (ρ.set i (some (.im d))) where
  wok := I.wok
  ext := I.ext
  len := by rw [List.length_set, List.length_set]; exact I.len
  im := fun j d' q => by
    rcases get_set q with ⟨e, e2, hl⟩ | ⟨e, q⟩
    · subst e
      cases e2
      exact ⟨v, List.getElem?_set_self (by rw [I.len]; exact hl), h⟩
    · obtain ⟨v', e1, e2⟩ := I.im j d' q
      exact ⟨v', by rw [List.getElem?_set_ne e]; exact e1, e2⟩
  ow := fun j ys q => by
    rcases get_set q with ⟨e, e2, hl⟩ | ⟨e, q⟩
    · cases e2
    · obtain ⟨b, us, p1, p⟩ := I.ow j ys q
      exact ⟨b, us, by rw [List.getElem?_set_ne e]; exact p1, p⟩
  sep := fun j k ys zs b hj hk h1 h2 => by
    rcases get_set hj with ⟨_, e2, _⟩ | ⟨e1, hj⟩
    · cases e2
    · rcases get_set hk with ⟨_, e2, _⟩ | ⟨e2, hk⟩
      · cases e2
      · rw [List.getElem?_set_ne e1] at h1
        rw [List.getElem?_set_ne e2] at h2
        exact I.sep j k ys zs b hj hk h1 h2
theorem EnvOk.put_fr {xs : List D} (I : EnvOk mg W0 H0 W H σ ρ) (i : Nat) (h : RR mg Hs W H σ ρ v (.fr xs)) (hd : ∀ a, Hs a = none → H0 a = none) : EnvOk mg W0 H0 W H (σ.set i (some v)) (ρ.set i (some (.ow xs))) where
  wok := I.wok
  ext := I.ext
  len := by rw [List.length_set, List.length_set]; exact I.len
  im := fun j d' q => by
    rcases get_set q with ⟨e, e2, hl⟩ | ⟨e, q⟩
    · cases e2
    · obtain ⟨v', e1, e2⟩ := I.im j d' q
      exact ⟨v', by rw [List.getElem?_set_ne e]; exact e1, e2⟩
  ow := fun j ys q => by
    rcases get_set q with ⟨e, e2, hl⟩ | ⟨e, q⟩
    · subst e
      cases e2
      obtain ⟨a, vs, h1, h2, h3, h4, h5, h6, _⟩ := h
      exact ⟨a, vs, by rw [← h1]; exact List.getElem?_set_self (by rw [I.len]; exact hl), h2, h3, h4, hd a h5, h6⟩
    · obtain ⟨b, us, p1, p⟩ := I.ow j ys q
      exact ⟨b, us, by rw [List.getElem?_set_ne e]; exact p1, p⟩
  sep := fun j k ys zs b hj hk h1 h2 => by
    obtain ⟨a, vs, g1, g2, g3, g4, g5, g6, g7⟩ := h
    rcases get_set hj with ⟨e1, ej, lj⟩ | ⟨e1, hj⟩
    · rcases get_set hk with ⟨e2, ek, _⟩ | ⟨e2, hk⟩
      · exact e1.symm.trans e2
      · subst e1
        rw [List.getElem?_set_ne e2] at h2
        rw [List.getElem?_set_self (by rw [I.len]; exact lj), g1] at h1
        cases h1
        exact absurd h2 (g7 k zs hk)
    · rw [List.getElem?_set_ne e1] at h1
      rcases get_set hk with ⟨e2, ek, lk⟩ | ⟨e2, hk⟩
      · subst e2
        rw [List.getElem?_set_self (by rw [I.len]; exact lk), g1] at h2
        cases h2
        exact absurd h1 (g7 j ys hj)
      · rw [List.getElem?_set_ne e2] at h2
        exact I.sep j k ys zs b hj hk h1 h2
theorem EnvOk.put (I : EnvOk mg W0 H0 W H σ ρ) (i : Nat) (h : RR mg Hs W H σ ρ v r) (hd : ∀ a, Hs a = none → H0 a = none) : ∃ W', EnvOk mg W0 H0 W' H (σ.set i (some v)) (store i r ρ) ∧ Wle W W' := by
  cases r with
  | im d => exact ⟨W, I.put_im i h, Wle.refl _⟩
  | fr xs => exact ⟨W, I.put_fr i h hd, Wle.refl _⟩
  | al j xs =>
    obtain ⟨W', I', u, hr, _⟩ := h.settle I hd
    exact ⟨W', I'.put_im i hr, u.le⟩
/-- a store to an own list -/
theorem EnvOk.store_own {i : Nat} {xs ys : List D} {a : Addr} {us : List V} (I : EnvOk mg W0 H0 W H σ ρ) (h1 : ρ[i]? = some (some (.ow xs))) (h2 : σ[i]? = some (some (.ref a))) (hr : RelL mg W us ys) : EnvOk mg W0 H0 W (upd H a (.lst us)) σ (ρ.set i (some (.ow ys))) := by
  obtain ⟨b, vs, q1, q2, q3, q4, q5, q6⟩ := I.ow i xs h1
  have e : b = a := by rw [h2] at q1; cases q1; rfl
  subst e
  have hl : i < ρ.length := (List.getElem?_eq_some_iff.mp h1).1
  refine ⟨I.wok.store q3 q4 _, ⟨⟨I.ext.mono, fun c o q n => ?_, fun c q => ?_, I.ext.u⟩, I.ext.new⟩, by rw [List.length_set]; exact I.len, fun j d q => ?_, fun j zs q => ?_, fun j k zs ws c hj hk => ?_⟩
  · rw [upd_ne (ne_of_none q q5)]
    exact I.ext.keep c o q n
  · by_cases e : c = b
    · subst e; exact q5
    · rw [upd_ne e] at q; exact I.ext.dom c q
  · rcases get_set q with ⟨e, e2, _⟩ | ⟨e, q⟩
    · cases e2
    · exact I.im j d q
  · rcases get_set q with ⟨e, e2, _⟩ | ⟨e, q⟩
    · subst e
      cases e2
      exact ⟨b, us, h2, upd_same, q3, q4, q5, hr⟩
    · obtain ⟨c, ws, p1, p2, p3, p4, p5, p6⟩ := I.ow j zs q
      refine ⟨c, ws, p1, ?_, p3, p4, p5, p6⟩
      rw [upd_ne (fun e3 => e (I.sep i j xs zs b h1 q h2 (by rw [p1, e3])))]
      exact p2
  · rcases get_set hj with ⟨e1, _, _⟩ | ⟨e1, hj⟩
    · rcases get_set hk with ⟨e2, _, _⟩ | ⟨e2, hk⟩
      · exact fun _ _ => e1.symm.trans e2
      · exact fun p1 p2 => by subst e1; exact I.sep _ k xs ws c h1 hk p1 p2
    · rcases get_set hk with ⟨e2, _, _⟩ | ⟨e2, hk⟩
      · exact fun p1 p2 => by subst e2; exact I.sep j _ zs xs c hj h1 p1 p2
      · exact I.sep j k zs ws c hj hk
end

/-! ### what a reading asks, over whole data -/
abbrev DTE := Rh → (R → Rh → Prop) → Prop
abbrev DTT := Rh → (Bool → Rh → Prop) → Prop
abbrev DTA := Rh → (List D → Rh → Prop) → Prop
abbrev DTG := R → Rh → (Rh → Prop) → Prop
abbrev DTI := Rh → (List D → Rh → Prop) → Prop
structure DEnds where
  nx : Rh → Prop
  rt : R → Prop
  bk : Rh → Prop
  ct : Rh → Prop
/-- a statement's: what follows, what is handed back, break, continue -/
abbrev DTS := (Rh → Prop) → (R → Prop) → (Rh → Prop) → (Rh → Prop) → Rh → Prop
abbrev DTS.on (t : DTS) (P : DEnds) (ρ : Rh) : Prop := t P.nx P.rt P.bk P.ct ρ
inductive RelHL (mg : Gm) (W : Wd) (H : Hp) : List V → List D → Prop
  | nil : RelHL mg W H [] []
  | cons {v : V} {vs : List V} {d : D} {ds : List D} : RelH mg W H v d → RelHL mg W H vs ds → RelHL mg W H (v :: vs) (d :: ds)
theorem RelHL.up {mg : Gm} {W W' : Wd} {H H' : Hp} (e : Up W H W' H') : ∀ {vs : List V} {ds : List D}, RelHL mg W H vs ds → RelHL mg W' H' vs ds
  | _, _, .nil => .nil
  | _, _, .cons h t => .cons (h.up e) (RelHL.up e t)
section
variable (mg : Gm)
def SE (t' : TE) (t : DTE) : Prop := ∀ W0 H0 W H σ ρ P Q, EnvOk mg W0 H0 W H σ ρ → t ρ P → (∀ W' H' v r ρ', EnvOk mg W0 H0 W' H' σ ρ' → Stp σ ρ W H ρ' W' H' → RR mg H W' H' σ ρ' v r → P r ρ' → Q v H') → t' σ H Q
def STt (t' : TT) (t : DTT) : Prop := ∀ W0 H0 W H σ ρ P Q, EnvOk mg W0 H0 W H σ ρ → t ρ P → (∀ W' H' b ρ', EnvOk mg W0 H0 W' H' σ ρ' → Stp σ ρ W H ρ' W' H' → P b ρ' → Q b H') → t' σ H Q
/-- arguments, to still data -/
def SA (t' : TA) (t : DTA) : Prop := ∀ W0 H0 W H σ ρ P Q, EnvOk mg W0 H0 W H σ ρ → t ρ P → (∀ W' H' vs ds ρ', EnvOk mg W0 H0 W' H' σ ρ' → Stp σ ρ W H ρ' W' H' → RelL mg W' vs ds → P ds ρ' → Q vs H') → t' σ H Q
/-- arguments, read -/
def SAh (t' : TA) (t : DTA) : Prop := ∀ W0 H0 W H σ ρ P Q, EnvOk mg W0 H0 W H σ ρ → t ρ P → (∀ W' H' vs ds ρ', EnvOk mg W0 H0 W' H' σ ρ' → Stp σ ρ W H ρ' W' H' → RelHL mg W' H' vs ds → P ds ρ' → Q vs H') → t' σ H Q
structure EndsOk (W0 : Wd) (H0 : Hp) (W : Wd) (P : DEnds) (E : Ends) : Prop where
  nx : ∀ W' H σ ρ, Wle W W' → EnvOk mg W0 H0 W' H σ ρ → P.nx ρ → E.nx σ H
  bk : ∀ W' H σ ρ, Wle W W' → EnvOk mg W0 H0 W' H σ ρ → P.bk ρ → E.bk σ H
  ct : ∀ W' H σ ρ, Wle W W' → EnvOk mg W0 H0 W' H σ ρ → P.ct ρ → E.ct σ H
  rt : ∀ W' H v r, WOk W' H → Ext W0 H0 W' H → RF mg H0 W' H v r → P.rt r → E.rt v H
theorem EndsOk.le {mg : Gm} {W0 W W' : Wd} {H0 : Hp} {P : DEnds} {E : Ends} (e : EndsOk mg W0 H0 W P E) (l : Wle W W') : EndsOk mg W0 H0 W' P E :=
  ⟨fun W2 H σ ρ k => e.nx W2 H σ ρ (l.trans k), fun W2 H σ ρ k => e.bk W2 H σ ρ (l.trans k), fun W2 H σ ρ k => e.ct W2 H σ ρ (l.trans k), e.rt⟩
def SS (t' : TS) (t : DTS) : Prop := ∀ W0 H0 W H σ ρ P E, EnvOk mg W0 H0 W H σ ρ → t P.nx P.rt P.bk P.ct ρ → EndsOk mg W0 H0 W P E → t' E σ H
def SG (g' : TG) (g : DTG) : Prop := ∀ W0 H0 Hs W H σ ρ v r P Q, EnvOk mg W0 H0 W H σ ρ → RR mg Hs W H σ ρ v r → (∀ a, Hs a = none → H0 a = none) → g r ρ P → (∀ W' H' σ' ρ', Wle W W' → EnvOk mg W0 H0 W' H' σ' ρ' → P ρ' → Q σ' H') → g' v σ H Q
/-- a walk gives these, one a turn -/
def DWalk (W : Wd) (J : It) (ds : List D) : Prop := ∀ W1 H1, WOk W1 H1 → Wle W W1 → (∀ (i : Nat) (d : D), ds[i]? = some d → J.go i H1 ∧ ∀ x H2, J.yld i H1 x H2 → ∃ W2, WOk W2 H2 ∧ Ext W1 H1 W2 H2 ∧ Rel mg W2 x d) ∧ J.stop ds.length H1
def SI (wi : TI) (ti : DTI) : Prop := ∀ W0 H0 W H σ ρ P (Q : It → Hp → Prop), EnvOk mg W0 H0 W H σ ρ → ti ρ P → (∀ W' H' J ds ρ', EnvOk mg W0 H0 W' H' σ ρ' → Stp σ ρ W H ρ' W' H' → DWalk mg W' J ds → P ds ρ' → Q J H') → wi σ H Q
/-- an operation on values: OpR's reading and its own -/
def OpS (r : R2) (o : D → D → (R → Prop) → Prop) : Prop := ∀ W H x y dx dy P Q, WOk W H → RelH mg W H x dx → RelH mg W H y dy → o dx dy P → (∀ W' H' v q, WOk W' H' → Ext W H W' H' → RF mg H W' H' v q → P q → Q v H') → r x y H Q
def UnS (r : V → Hp → VK → Prop) (o : D → (R → Prop) → Prop) : Prop := ∀ W H x dx P Q, WOk W H → RelH mg W H x dx → o dx P → (∀ W' H' v q, WOk W' H' → Ext W H W' H' → RF mg H W' H' v q → P q → Q v H') → r x H Q
def CaS (r : List V → Hp → VK → Prop) (o : List D → (R → Prop) → Prop) : Prop := ∀ W H xs dx P Q, WOk W H → RelHL mg W H xs dx → o dx P → (∀ W' H' v q, WOk W' H' → Ext W H W' H' → RF mg H W' H' v q → P q → Q v H') → r xs H Q
end
structure DE (X : Cx) (e : Expr) (t' : TE) (t : DTE) : Prop where
  p : PE X e t'
  s : SE (gm X) t' t
structure DT (X : Cx) (e : Expr) (t' : TT) (t : DTT) : Prop where
  p : PT X e t'
  s : STt (gm X) t' t
structure DW (X : Cx) (e : Expr) (t' : TT) (t : DTT) : Prop where
  p : PW X e t'
  s : STt (gm X) t' t
structure DTs (X : Cx) (es : List Expr) (t' : TT) (t : DTT) : Prop where
  p : PTs X es t'
  s : STt (gm X) t' t
structure DA (X : Cx) (es : List Expr) (t' : TA) (t : DTA) : Prop where
  p : PA X es t'
  s : SA (gm X) t' t
structure DAh (X : Cx) (es : List Expr) (t' : TA) (t : DTA) : Prop where
  p : PA X es t'
  s : SAh (gm X) t' t
structure DS (X : Cx) (st : Stmt) (t' : TS) (t : DTS) : Prop where
  p : PS X st t'
  s : SS (gm X) t' t
structure DSs (X : Cx) (sts : List Stmt) (t' : TS) (t : DTS) : Prop where
  p : PSs X sts t'
  s : SS (gm X) t' t
structure DG (X : Cx) (e : Expr) (g' : TG) (g : DTG) : Prop where
  p : PG X e g'
  s : SG (gm X) g' g
structure DI (X : Cx) (tg e : Expr) (t' : TI) (t : DTI) : Prop where
  p : PI X tg e t'
  s : SI (gm X) t' t
structure DO (X : Cx) (op : Value → Value → Sem Value) (r : R2) (o : D → D → (R → Prop) → Prop) : Prop where
  p : OpR X op r
  s : OpS (gm X) r o
structure DC (X : Cx) (f : Value) (r : List V → Hp → VK → Prop) (o : List D → (R → Prop) → Prop) : Prop where
  p : CallR X f r
  s : CaS (gm X) r o
end DL
/-! Deep readings: names, constants, operators, tests, displays, statements. -/
namespace DL
open PySem PySem.Spec PyProof.Rows L2
section
variable {X : Cx} {mg : Gm}

/-! ### names, constants -/
def dVar (i : Nat) : DTE := fun ρ P => match ρ[i]? with
  | some (some (.im d)) => P (.im d) ρ
  | some (some (.ow xs)) => P (.al i xs) ρ
  | _ => False
def dC (d : D) : DTE := fun ρ P => P (.im d) ρ
theorem se_var (i : Nat) : SE mg (tVar i) (dVar i) := fun W0 H0 W H σ ρ P Q I h k => by
  unfold dVar at h
  split at h
  · rename_i d e
    obtain ⟨v, h1, h2⟩ := I.im i d e
    exact ⟨v, h1, k W H v (.im d) ρ I Stp.refl h2 h⟩
  · rename_i xs e
    obtain ⟨a, vs, h1, _⟩ := I.ow i xs e
    exact ⟨_, h1, k W H _ (.al i xs) ρ I Stp.refl ⟨e, h1⟩ h⟩
  · exact h.elim
theorem se_c {v : V} {d : D} (r : ∀ W, Rel mg W v d) : SE mg (tC v) (dC d) := fun W0 H0 W H σ ρ P Q I h k => k W H v (.im d) ρ I Stp.refl (r W) h
theorem de_var (i : Nat) {x : Str} {pos : Pos} (hN : X.N[i]? = some x := by rfl) (hv : Vis X.env.scope x := by first | exact Or.inl rfl | exact Or.inr (Or.inl rfl) | exact Or.inr (Or.inr rfl)) (hd : (x == ("__debug__" : Str)) = false := by decide)
    (hcd : (x == ("__classdict__" : Str)) = false := by decide) : DE X (.Name x pos) (tVar i) (dVar i) := ⟨pe_var hN hv hd hcd, se_var i⟩
theorem de_int {i j pos} : DE X (.Constant (.int i) j pos) (tC (.int i)) (dC (.int i)) := ⟨pe_int, se_c fun _ => .int i⟩
theorem de_bl {b j pos} : DE X (.Constant (.bool b) j pos) (tC (.bl b)) (dC (.bl b)) := ⟨pe_bl, se_c fun _ => .bl b⟩
theorem de_non {j pos} : DE X (.Constant .none j pos) (tC .non) (dC .non) := ⟨pe_non, se_c fun _ => .non⟩
theorem de_str {x j pos} : DE X (.Constant (.str x) j pos) (tC (.str x)) (dC (.str x)) := ⟨pe_str, se_c fun _ => .str x⟩

/-! ### what read data are -/
variable {W W' : Wd} {H H' : Hp} {v x y : V}
theorem RelH.int {i : Int} (h : RelH mg W H v (.int i)) : v = .int i := by
  rcases h with h | ⟨_, _, _, _, e, _⟩
  · cases h; rfl
  · cases e
theorem RelH.bl {i : Bool} (h : RelH mg W H v (.bl i)) : v = .bl i := by
  rcases h with h | ⟨_, _, _, _, e, _⟩
  · cases h; rfl
  · cases e
theorem RelH.str {i : Str} (h : RelH mg W H v (.str i)) : v = .str i := by
  rcases h with h | ⟨_, _, _, _, e, _⟩
  · cases h; rfl
  · cases e
theorem RelH.non (h : RelH mg W H v .non) : v = .non := by
  rcases h with h | ⟨_, _, _, _, e, _⟩
  · cases h; rfl
  · cases e
theorem RelH.tup {ds : List D} (h : RelH mg W H v (.tup ds)) (w : WOk W H) : ∃ a vs, v = .ref a ∧ H a = some (.tup vs) ∧ W.F a = some (.tup vs) ∧ RelL mg W vs ds := by
  rcases h with h | ⟨_, _, _, _, e, _⟩
  · cases h with
    | tup h1 h2 => exact ⟨_, _, rfl, w.sub _ _ h1, h1, h2⟩
  · cases e
theorem RelH.lst {ds : List D} (h : RelH mg W H v (.lst ds)) (w : WOk W H) : ∃ a vs, v = .ref a ∧ H a = some (.lst vs) ∧ NotP W a ∧ RelL mg W vs ds := by
  rcases h with h | ⟨a, vs, xs, e1, e, h1, h2, h3⟩
  · cases h with
    | lst h1 h2 => exact ⟨_, _, rfl, w.sub _ _ h1, w.notP_F h1, h2⟩
  · cases e
    exact ⟨a, vs, e1, h1, h2, h3⟩
/-- a new list of a call or an operation -/
theorem rf_new {a : Addr} {vs : List V} {ds : List D} (w : WOk W H) (h : H a = none) (r : RelL mg W vs ds) : WOk W (upd H a (.lst vs)) ∧ Ext W H W (upd H a (.lst vs)) ∧ RF mg H W (upd H a (.lst vs)) (.ref a) (.fr ds) :=
  ⟨w.new h _, new_ext w h _, a, vs, rfl, h, upd_same, w.free h, w.notP_new h, r⟩
theorem rf_tup {a : Addr} {vs : List V} {ds : List D} (w : WOk W H) (h : H a = none) (r : RelL mg W vs ds) : WOk (W.add a (.tup vs)) (upd H a (.tup vs)) ∧ Ext W H (W.add a (.tup vs)) (upd H a (.tup vs)) ∧ RF mg H (W.add a (.tup vs)) (upd H a (.tup vs)) (.ref a) (.im (.tup ds)) :=
  ⟨add_ok w h _, add_ext w h _, .tup upd_same (r.mono (add_ext w h _).le)⟩

/-! ### operators -/
def dOp (o : D → D → (R → Prop) → Prop) (ta tb : DTE) : DTE := fun ρ P => ta ρ fun r1 ρ1 => tb ρ1 fun r2 ρ2 => o r1.d r2.d fun r => P r ρ2
theorem se_op {r : R2} {o : D → D → (R → Prop) → Prop} {ta' tb' : TE} {ta tb : DTE} (ho : OpS mg r o) (ha : SE mg ta' ta) (hb : SE mg tb' tb) : SE mg (tOp r ta' tb') (dOp o ta tb) := fun W0 H0 W H σ ρ P Q I h k =>
  ha W0 H0 W H σ ρ _ _ I h fun W1 H1 x r1 ρ1 I1 u1 R1 h1 => hb W0 H0 W1 H1 σ ρ1 _ _ I1 h1 fun W2 H2 y r2 ρ2 I2 u2 R2 h2 =>
    ho W2 H2 x y _ _ _ _ I2.wok ((R1.relH I1).up u2.toUp) (R2.relH I2) h2 fun W3 H3 v r3 w3 e3 f3 p3 => k W3 H3 v r3 ρ2 (I2.step e3 w3) ((u1.trans u2).trans e3.stp) ((f3.rr I2).back fun a q => u1.dom a (u2.dom a q)) p3
def dUn (o : D → (R → Prop) → Prop) (ta : DTE) : DTE := fun ρ P => ta ρ fun r1 ρ1 => o r1.d fun r => P r ρ1
theorem se_un {r : V → Hp → VK → Prop} {o : D → (R → Prop) → Prop} {ta' : TE} {ta : DTE} (ho : UnS mg r o) (ha : SE mg ta' ta) : SE mg (tUn r ta') (dUn o ta) := fun W0 H0 W H σ ρ P Q I h k =>
  ha W0 H0 W H σ ρ _ _ I h fun W1 H1 x r1 ρ1 I1 u1 R1 h1 =>
    ho W1 H1 x _ _ _ I1.wok (R1.relH I1) h1 fun W3 H3 v r3 w3 e3 f3 p3 => k W3 H3 v r3 ρ1 (I1.step e3 w3) (u1.trans e3.stp) ((f3.rr I1).back fun a q => u1.dom a q) p3
theorem de_op {a b : Expr} {pos : Pos} {op : Operator} {r : R2} {o : D → D → (R → Prop) → Prop} {ta' tb' : TE} {ta tb : DTE} (ho : DO X (binaryOp op) r o) (ha : DE X a ta' ta) (hb : DE X b tb' tb) : DE X (.BinOp a op b pos) (tOp r ta' tb') (dOp o ta tb) := ⟨pe_op ho.p ha.p hb.p, se_op ho.s ha.s hb.s⟩
theorem de_cmp {a b : Expr} {pos : Pos} {op : CmpOp} {r : R2} {o : D → D → (R → Prop) → Prop} {ta' tb' : TE} {ta tb : DTE} (ho : DO X (compareOp op) r o) (ha : DE X a ta' ta) (hb : DE X b tb' tb) (hm : behindInMarks op b = false) : DE X (.Compare a [op] [b] pos) (tOp r ta' tb') (dOp o ta tb) := ⟨pe_cmpR ho.p ha.p hb.p hm, se_op ho.s ha.s hb.s⟩
theorem DO.or {f : Value → Value → Sem Value} {r r' : R2} {o o' : D → D → (R → Prop) → Prop} (h : DO X f r o) (h' : DO X f r' o') : DO X f (fun x y H Q => r x y H Q ∨ r' x y H Q) (fun x y P => o x y P ∨ o' x y P) :=
  ⟨h.p.or h'.p, fun W H x y dx dy P Q w a b o k => o.elim (fun o => .inl (h.s W H x y dx dy P Q w a b o k)) fun o => .inr (h'.s W H x y dx dy P Q w a b o k)⟩
theorem DO.to {f : Value → Value → Sem Value} {r : R2} {o o' : D → D → (R → Prop) → Prop} (h : DO X f r o) (i : ∀ x y P, o' x y P → o x y P) : DO X f r o' := ⟨h.p, fun W H x y dx dy P Q w a b o k => h.s W H x y dx dy P Q w a b (i _ _ _ o) k⟩
/-- two ints -/
def oI (C : Int → Int → Prop) (g : Int → Int → D) : D → D → (R → Prop) → Prop := fun x y P => match x, y with
  | .int i, .int j => C i j ∧ P (.im (g i j))
  | _, _ => False
theorem oI_inv {C : Int → Int → Prop} {g : Int → Int → D} {x y : D} {P : R → Prop} (h : oI C g x y P) : ∃ i j, x = .int i ∧ y = .int j ∧ C i j ∧ P (.im (g i j)) := by
  unfold oI at h
  split at h
  · exact ⟨_, _, rfl, rfl, h.1, h.2⟩
  · exact h.elim
theorem os_I {C : Int → Int → Prop} {g' : Int → Int → V} {g : Int → Int → D} (hg : ∀ W i j, Rel mg W (g' i j) (g i j)) : OpS mg (rI C g') (oI C g) := fun W H x y dx dy P Q w a b o k => by
  obtain ⟨i, j, rfl, rfl, c, p⟩ := oI_inv o
  exact ⟨i, j, a.int, b.int, c, k W H _ (.im _) w (Ext.refl _ _) (hg W i j) p⟩
def oI0 (g : Int → Int → D) : D → D → (R → Prop) → Prop := fun x y P => match x, y with
  | .int i, .int j => P (.im (g i j))
  | _, _ => False
theorem oI0_inv {g : Int → Int → D} {x y : D} {P : R → Prop} (h : oI0 g x y P) : ∃ i j, x = .int i ∧ y = .int j ∧ P (.im (g i j)) := by
  unfold oI0 at h
  split at h
  · exact ⟨_, _, rfl, rfl, h⟩
  · exact h.elim
theorem os_I0 {g' : Int → Int → V} {g : Int → Int → D} (hg : ∀ W i j, Rel mg W (g' i j) (g i j)) : OpS mg (rI0 g') (oI0 g) := fun W H x y dx dy P Q w a b o k => by
  obtain ⟨i, j, rfl, rfl, p⟩ := oI0_inv o
  exact ⟨i, j, a.int, b.int, k W H _ (.im _) w (Ext.refl _ _) (hg W i j) p⟩
abbrev CTrue : Int → Int → Prop := fun _ _ => True
theorem do_sub : DO X (binaryOp .Sub) (rI0 fun i j => .int (i - j)) (oI0 fun i j => .int (i - j)) := ⟨op_sub, os_I0 fun _ _ _ => .int _⟩
theorem do_mod : DO X (binaryOp .Mod) (rI (fun _ j => 0 < j) fun i j => .int (i % j)) (oI (fun _ j => 0 < j) fun i j => .int (i % j)) := ⟨op_mod, os_I fun _ _ _ => .int _⟩
theorem do_fdiv : DO X (binaryOp .FloorDiv) (rI CDivW fun i j => .int (i / j)) (oI CDivW fun i j => .int (i / j)) := ⟨op_fdivW, os_I fun _ _ _ => .int _⟩
theorem do_pow : DO X (binaryOp .Pow) (rI CPow fun i j => .int (i ^ j.toNat)) (oI CPow fun i j => .int (i ^ j.toNat)) := ⟨op_pow, os_I fun _ _ _ => .int _⟩
theorem do_xor : DO X (binaryOp .BitXor) (rI0 fun i j => .int (Builtin.bitXor i j)) (oI0 fun i j => .int (Builtin.bitXor i j)) := ⟨op_xor, os_I0 fun _ _ _ => .int _⟩
theorem do_lt : DO X (compareOp .Lt) (rI0 fun i j => .bl (decide (i < j))) (oI0 fun i j => .bl (decide (i < j))) := ⟨op_lt, os_I0 fun _ _ _ => .bl _⟩
theorem do_le : DO X (compareOp .LtE) (rI0 fun i j => .bl (decide (i ≤ j))) (oI0 fun i j => .bl (decide (i ≤ j))) := ⟨op_le, os_I0 fun _ _ _ => .bl _⟩
theorem do_gt : DO X (compareOp .Gt) (rI0 fun i j => .bl (decide (j < i))) (oI0 fun i j => .bl (decide (j < i))) := ⟨op_gt, os_I0 fun _ _ _ => .bl _⟩
theorem do_ge : DO X (compareOp .GtE) (rI0 fun i j => .bl (decide (j ≤ i))) (oI0 fun i j => .bl (decide (j ≤ i))) := ⟨op_ge, os_I0 fun _ _ _ => .bl _⟩
def rAddAll (K : PySem.W.Frag) : R2 := fun x y H Q => (rI0 fun i j => .int (i + j)) x y H Q ∨ ((fun x y H Q => ∃ i j, x = .str i ∧ y = .str j ∧ i.length + j.length ≤ sizeLine ∧ Q (.str (i ++ j)) H) : R2) x y H Q ∨ rCat x y H Q ∨ rCatA K x y H Q
/-- + -/
def oAdd : D → D → (R → Prop) → Prop := fun x y P => match x, y with
  | .int i, .int j => P (.im (.int (i + j)))
  | .str i, .str j => i.length + j.length ≤ sizeLine ∧ P (.im (.str (i ++ j)))
  | .lst i, .lst j => i.length + j.length ≤ sizeLine ∧ P (.fr (i ++ j))
  | .tup i, .tup j => i.length + j.length ≤ sizeLine ∧ P (.im (.tup (i ++ j)))
  | _, _ => False
theorem do_add0 : DO X (binaryOp .Add) (rAddAll X.K) oAdd := ⟨op_add.or (op_add_str.or (op_cat.or op_catA)), fun W H x y dx dy P Q w a b o k => by
  unfold oAdd at o
  split at o
  · exact .inl ⟨_, _, a.int, b.int, k W H _ (.im _) w (Ext.refl _ _) (.int _) o⟩
  · exact .inr (.inl ⟨_, _, a.str, b.str, o.1, k W H _ (.im _) w (Ext.refl _ _) (.str _) o.2⟩)
  · obtain ⟨p, vs, e1, h1, n1, r1⟩ := a.lst w
    obtain ⟨q, us, e2, h2, n2, r2⟩ := b.lst w
    refine .inr (.inr (.inl ⟨p, q, vs, us, e1, e2, h1, h2, by rw [r1.length, r2.length]; exact o.1, fun c hc => ?_⟩))
    obtain ⟨k1, k2, k3⟩ := rf_new w hc (r1.append r2)
    exact k _ _ _ _ k1 k2 k3 o.2
  · obtain ⟨p, vs, e1, h1, f1, r1⟩ := a.tup w
    obtain ⟨q, us, e2, h2, f2, r2⟩ := b.tup w
    refine .inr (.inr (.inr ⟨p, q, vs, us, e1, e2, SqT.of h1, SqT.of h2, by rw [r1.length, r2.length]; exact o.1, fun e => ?_, fun _ e => ?_, fun _ _ c hc => ?_⟩))
    · subst e
      cases r1
      exact k _ _ _ (.im _) w (Ext.refl _ _) (Rel.tup f2 r2) o.2
    · subst e
      cases r2
      have o2 := o.2
      rw [List.append_nil] at o2
      exact k _ _ _ (.im _) w (Ext.refl _ _) (Rel.tup f1 r1) o2
    · obtain ⟨k1, k2, k3⟩ := rf_tup w hc (r1.append r2)
      exact k _ _ _ _ k1 k2 k3 o.2
  · exact o.elim⟩
theorem do_add {K : PySem.W.Frag} (hK : X.K = K := by rfl) : DO X (binaryOp .Add) (rAddAll K) oAdd := by subst hK; exact do_add0
theorem relL_repeat {vs : List V} {ds : List D} (r : RelL mg W vs ds) : ∀ n : Nat, RelL mg W (List.replicate n vs).flatten (List.replicate n ds).flatten
  | 0 => .nil
  | n + 1 => by rw [List.replicate_succ, List.replicate_succ, List.flatten_cons, List.flatten_cons]; exact r.append (relL_repeat r n)
end
end DL
/-! Deep readings: products, ==, in, truth, tests, displays, calls of built-ins. -/
namespace DL
open PySem PySem.Spec PyProof.Rows L2

mutual
def D.py : D → PyData
  | .non => .none
  | .bl b => .bool b
  | .int i => .int i
  | .str x => .str x
  | .tup xs => .tuple (D.pyL xs)
  | .lst xs => .list (D.pyL xs)
  | .dic _ => .dict []
  | .obj _ _ => .dict []
  | .purse => .dict []
  | .scr _ => .dict []
def D.pyL : List D → List PyData
  | [] => []
  | x :: xs => D.py x :: D.pyL xs
end

section
variable {X : Cx} {mg : Gm} {W W' : Wd} {H H' : Hp} {v x y : V}
mutual
theorem Rel.dp {K : PySem.W.Frag} (w : WOk W H) : ∀ {v : V} {d : D}, Rel mg W v d → d.py.canLay0 = true → Dp K H v d.py
  | _, _, .non, _ => .non
  | _, _, .bl b, _ => .bl b
  | _, _, .int i, _ => .int i
  | _, _, .str x, _ => .str x
  | _, _, .tup h r, c => .tup (SqT.of (w.sub _ _ h)) (RelL.dp w r c)
  | _, _, .lst h r, c => .lst (SqL.of (w.sub _ _ h)) (RelL.dp w r c)
  | _, _, .dic h r, c => absurd c (by show ¬ (false = true); exact Bool.false_ne_true)
  | _, _, .obj h e r, c => absurd c (by show ¬ (false = true); exact Bool.false_ne_true)
  | _, _, .purse h, c => absurd c (by show ¬ (false = true); exact Bool.false_ne_true)
  | _, _, .scr h r, c => absurd c (by show ¬ (false = true); exact Bool.false_ne_true)
theorem RelL.dp {K : PySem.W.Frag} (w : WOk W H) : ∀ {vs : List V} {ds : List D}, RelL mg W vs ds → PyData.canLayAll0 (D.pyL ds) = true → DpAll K H vs (D.pyL ds)
  | _, _, .nil, _ => .nil
  | _, _, .cons (d := d) (ds := ds) h t, c => by
    have c2 : (d.py.canLay0 && PyData.canLayAll0 (D.pyL ds)) = true := c
    rw [Bool.and_eq_true] at c2
    exact .cons (Rel.dp w h c2.1) (RelL.dp w t c2.2)
end
theorem RelH.dp {K : PySem.W.Frag} {d : D} (h : RelH mg W H v d) (w : WOk W H) (c : SeqAt.shaped d.py = true) : Dp K H v d.py := by
  have c1 := SeqAt.canLay_of_shaped c
  rcases h with h | ⟨a, vs, xs, rfl, rfl, h1, h2, h3⟩
  · exact h.dp w c1
  · exact .lst (SqL.of h1) (RelL.dp w h3 c1)
/-- == -/
def oEqB (g : Bool → Bool) : D → D → (R → Prop) → Prop := fun x y P => match x, y with
  | .int i, .int j => P (.im (.bl (g (decide (i = j)))))
  | .bl i, .bl j => P (.im (.bl (g (decide (i = j)))))
  | .str i, .str j => SeqAt.shaped (.str i) = true ∧ SeqAt.shaped (.str j) = true ∧ P (.im (.bl (g (decide (i = j)))))
  | x, y => SeqAt.shaped x.py = true ∧ SeqAt.shaped y.py = true ∧ P (.im (.bl (g (PyData.eqv x.py y.py))))
theorem eqv_int (i j : Int) : PyData.eqv (.int i) (.int j) = decide (i = j) := by unfold PyData.eqv; exact Bool.beq_eq_decide_eq i j
theorem eqv_bl (i j : Bool) : PyData.eqv (.bool i) (.bool j) = decide (i = j) := by unfold PyData.eqv; exact Bool.beq_eq_decide_eq i j
theorem eqv_str (i j : Str) : PyData.eqv (.str i) (.str j) = decide (i = j) := by unfold PyData.eqv; exact Bool.beq_eq_decide_eq i j
theorem oEqB_inv {g : Bool → Bool} {x y : D} {P : R → Prop} (h : oEqB g x y P) : SeqAt.shaped x.py = true ∧ SeqAt.shaped y.py = true ∧ P (.im (.bl (g (PyData.eqv x.py y.py)))) := by
  unfold oEqB at h
  split at h
  · refine ⟨rfl, rfl, ?_⟩; show P (.im (.bl (g (PyData.eqv (.int _) (.int _))))); rw [eqv_int]; exact h
  · refine ⟨rfl, rfl, ?_⟩; show P (.im (.bl (g (PyData.eqv (.bool _) (.bool _))))); rw [eqv_bl]; exact h
  · refine ⟨h.1, h.2.1, ?_⟩; show P (.im (.bl (g (PyData.eqv (.str _) (.str _))))); rw [eqv_str]; exact h.2.2
  · exact h
abbrev oEq := oEqB id
abbrev oNe := oEqB not
theorem do_eq0 (hu : X.A.units + 64 < cLine) : DO X (compareOp .Eq) (rEqD X.K) oEq := ⟨op_eqD hu, fun W H x y dx dy P Q w a b o k => by
  obtain ⟨s1, s2, p⟩ := oEqB_inv o
  exact ⟨_, _, a.dp w s1, b.dp w s2, s1, s2, k W H _ (.im _) w (Ext.refl _ _) (.bl _) p⟩⟩
theorem do_ne0 (hu : X.A.units + 64 < cLine) : DO X (compareOp .NotEq) (rNeD X.K) oNe := ⟨op_neD hu, fun W H x y dx dy P Q w a b o k => by
  obtain ⟨s1, s2, p⟩ := oEqB_inv o
  exact ⟨_, _, a.dp w s1, b.dp w s2, s1, s2, k W H _ (.im _) w (Ext.refl _ _) (.bl _) p⟩⟩
/-- * -/
def CMulA (i j : Int) : Prop := CMul i j ∨ CMulW i j
def rMulAll : R2 := fun x y H Q => rI CMul (fun i j => .int (i * j)) x y H Q ∨ rI CMulW (fun i j => .int (i * j)) x y H Q ∨ rRep x y H Q
def oMul : D → D → (R → Prop) → Prop := fun x y P => match x, y with
  | .int i, .int j => CMulA i j ∧ P (.im (.int (i * j)))
  | .lst xs, .int k => -(2 ^ 63) ≤ k ∧ k < 2 ^ 63 ∧ xs.length * k.toNat ≤ sizeLine ∧ P (.fr (List.replicate k.toNat xs).flatten)
  | _, _ => False
theorem do_mul : DO X (binaryOp .Mult) rMulAll oMul := ⟨op_mul.or (op_mulW.or op_rep), fun W H x y dx dy P Q w a b o k => by
  unfold oMul at o
  split at o
  · rcases o.1 with c | c
    · exact .inl ⟨_, _, a.int, b.int, c, k W H _ (.im _) w (Ext.refl _ _) (.int _) o.2⟩
    · exact .inr (.inl ⟨_, _, a.int, b.int, c, k W H _ (.im _) w (Ext.refl _ _) (.int _) o.2⟩)
  · obtain ⟨p, vs, e1, h1, n1, r1⟩ := a.lst w
    refine .inr (.inr ⟨p, _, vs, e1, b.int, h1, o.1, o.2.1, by rw [r1.length]; exact o.2.2.1, fun c hc => ?_⟩)
    obtain ⟨k1, k2, k3⟩ := rf_new w hc (relL_repeat r1 _)
    exact k _ _ _ _ k1 k2 k3 o.2.2.2
  · exact o.elim⟩
/-- - of one -/
def oNeg : D → (R → Prop) → Prop := fun x P => match x with
  | .int i => P (.im (.int (-i)))
  | _ => False
theorem de_neg {a : Expr} {pos : Pos} {ta' : TE} {ta : DTE} (ha : DE X a ta' ta) : DE X (.UnaryOp .USub a pos) (tUn (rU fun i => .int (-i)) ta') (dUn oNeg ta) := ⟨pe_un un_neg ha.p, se_un (fun W H x dx P Q w a o k => by
  unfold oNeg at o
  split at o
  · exact ⟨_, a.int, k W H _ (.im _) w (Ext.refl _ _) (.int _) o⟩
  · exact o.elim) ha.s⟩
/-- in, flat items -/
def flatD : D → Bool
  | .non => true
  | .bl _ => true
  | .int _ => true
  | .str _ => true
  | _ => false
def eqF : D → D → Bool
  | .non, .non => true
  | .bl a, .bl b => a == b
  | .bl a, .int b => (if a then 1 else 0) == b
  | .int a, .bl b => a == (if b then 1 else 0)
  | .int a, .int b => a == b
  | .str a, .str b => a == b
  | _, _ => false
def inF (x : D) (xs : List D) : Bool := xs.any fun y => eqF y x
theorem Rel.flat {d : D} (r : Rel mg W v d) (h : flatD d = true) : flatV v = true := by cases r <;> first | rfl | exact h
theorem Rel.eqF {d e : D} {u : V} (r : Rel mg W v d) (q : Rel mg W u e) (h : flatD d = true) (h2 : flatD e = true) : eqV v u = eqF d e := by
  cases r <;> first | exact absurd h Bool.false_ne_true | (cases q <;> first | exact absurd h2 Bool.false_ne_true | rfl)
theorem RelL.flat : ∀ {vs : List V} {ds : List D}, RelL mg W vs ds → ds.all flatD = true → vs.all flatV = true
  | _, _, .nil, _ => rfl
  | _, _, .cons h t, c => by
    rw [List.all_cons, Bool.and_eq_true] at c ⊢
    exact ⟨h.flat c.1, RelL.flat t c.2⟩
theorem RelL.inF {d : D} {u : V} (q : Rel mg W u d) (hd : flatD d = true) : ∀ {vs : List V} {ds : List D}, RelL mg W vs ds → ds.all flatD = true → inV u vs = inF d ds
  | _, _, .nil, _ => rfl
  | _, _, .cons h t, c => by
    rw [List.all_cons, Bool.and_eq_true] at c
    have e1 := h.eqF q c.1 hd
    have e2 := RelL.inF q hd t c.2
    unfold L2.inV at e2 ⊢
    unfold DL.inF at e2 ⊢
    rw [List.any_cons, List.any_cons, e1, e2]
theorem RelH.flat {d : D} (h : RelH mg W H v d) (f : flatD d = true) : Rel mg W v d := by
  rcases h with h | ⟨a, vs, xs, rfl, rfl, _⟩
  · exact h
  · cases f
def oIn (g : Bool → Bool) : D → D → (R → Prop) → Prop := fun x y P => match y with
  | .lst ys => flatD x = true ∧ ys.all flatD = true ∧ P (.im (.bl (g (inF x ys))))
  | .tup ys => flatD x = true ∧ ys.all flatD = true ∧ P (.im (.bl (g (inF x ys))))
  | _ => False
theorem do_in0 : DO X (compareOp .In) (rIn X.K false) (oIn id) := ⟨op_in_seq, fun W H x y dx dy P Q w a b o k => by
  unfold oIn at o
  split at o
  · obtain ⟨p, vs, e1, h1, n1, r1⟩ := b.lst w
    have q := a.flat o.1
    refine ⟨p, vs, e1, .inl (SqL.of h1), q.flat o.1, r1.flat o.2.1, k W H _ (.im _) w (Ext.refl _ _) ?_ o.2.2⟩
    show Rel (gm X) W (.bl (inV x vs)) _
    rw [r1.inF q o.1 o.2.1]; exact .bl _
  · obtain ⟨p, vs, e1, h1, n1, r1⟩ := b.tup w
    have q := a.flat o.1
    refine ⟨p, vs, e1, .inr (SqT.of h1), q.flat o.1, r1.flat o.2.1, k W H _ (.im _) w (Ext.refl _ _) ?_ o.2.2⟩
    show Rel (gm X) W (.bl (inV x vs)) _
    rw [r1.inF q o.1 o.2.1]; exact .bl _
  · exact o.elim⟩
theorem do_notIn0 : DO X (compareOp .NotIn) (rIn X.K true) (oIn not) := ⟨op_notIn_seq, fun W H x y dx dy P Q w a b o k => by
  unfold oIn at o
  split at o
  · obtain ⟨p, vs, e1, h1, n1, r1⟩ := b.lst w
    have q := a.flat o.1
    refine ⟨p, vs, e1, .inl (SqL.of h1), q.flat o.1, r1.flat o.2.1, k W H _ (.im _) w (Ext.refl _ _) ?_ o.2.2⟩
    show Rel (gm X) W (.bl (!inV x vs)) _
    rw [r1.inF q o.1 o.2.1]; exact .bl _
  · obtain ⟨p, vs, e1, h1, n1, r1⟩ := b.tup w
    have q := a.flat o.1
    refine ⟨p, vs, e1, .inr (SqT.of h1), q.flat o.1, r1.flat o.2.1, k W H _ (.im _) w (Ext.refl _ _) ?_ o.2.2⟩
    show Rel (gm X) W (.bl (!inV x vs)) _
    rw [r1.inF q o.1 o.2.1]; exact .bl _
  · exact o.elim⟩

/-! ### tests -/
/-- by a truth -/
def sw (b : Bool) (A B : Prop) : Prop := (b = true → A) ∧ (b = false → B)
theorem sw_t {A B : Prop} (h : A) : sw true A B := ⟨fun _ => h, fun e => Bool.noConfusion e⟩
theorem sw_f {A B : Prop} (h : B) : sw false A B := ⟨fun e => Bool.noConfusion e, fun _ => h⟩
def dTest (t : DTE) : DTT := fun ρ P => t ρ fun r ρ1 => match r with
  | .im (.bl b) => P b ρ1
  | _ => False
theorem st_test {t' : TE} {t : DTE} (h : SE mg t' t) : STt mg (tTest t') (dTest t) := fun W0 H0 W H σ ρ P Q I q k =>
  h W0 H0 W H σ ρ _ _ I q fun W1 H1 v r ρ1 I1 u1 R1 h1 => by
    split at h1
    · rename_i b
      have R2 : Rel mg W1 v (.bl b) := R1
      cases R2
      exact ⟨_, rfl, k W1 H1 _ ρ1 I1 u1 h1⟩
    · exact h1.elim
theorem dt_cmp {a b : Expr} {pos : Pos} {op : CmpOp} {r : R2} {o : D → D → (R → Prop) → Prop} {ta' tb' : TE} {ta tb : DTE} (ho : DO X (compareOp op) r o) (ha : DE X a ta' ta) (hb : DE X b tb' tb) (hm : behindInMarks op b = false) : DT X (.Compare a [op] [b] pos) (tTest (tOp r ta' tb')) (dTest (dOp o ta tb)) :=
  ⟨pt_cmpR ho.p ha.p hb.p hm, st_test (se_op ho.s ha.s hb.s)⟩
def truD : D → Option Bool
  | .non => some false
  | .bl b => some b
  | .int i => some (decide (i ≠ 0))
  | .lst xs => some (!xs.isEmpty)
  | .tup xs => some (!xs.isEmpty)
  | _ => none
def tTru (K : PySem.W.Frag) (ta : TE) : TT := fun σ H Q => ta σ H fun x H' => ∃ k, TruV K x H' k ∧ Q k H'
def dTru (t : DTE) : DTT := fun ρ P => t ρ fun r ρ1 => match truD r.d with
  | some b => P b ρ1
  | none => False
theorem RelL.isEmpty {vs : List V} {ds : List D} (r : RelL mg W vs ds) : vs.isEmpty = ds.isEmpty := by cases r <;> rfl
theorem tru_of {K : PySem.W.Frag} {d : D} {b : Bool} (h : RelH mg W H v d) (w : WOk W H) (e : truD d = some b) : TruV K v H b := by
  cases d with
  | non => cases h.non; cases e; rfl
  | bl b => cases h.bl; cases e; rfl
  | int i =>
    cases h.int
    cases e
    show decide (i ≠ 0) = (i != 0)
    by_cases q : i = 0
    · subst q; rfl
    · rw [decide_eq_true q]; exact (bne_iff_ne.mpr q).symm
  | lst xs =>
    obtain ⟨p, vs, rfl, h1, n1, r1⟩ := h.lst w
    cases e
    exact .inl ⟨vs, SqL.of h1, by rw [r1.isEmpty]⟩
  | tup xs =>
    obtain ⟨p, vs, rfl, h1, n1, r1⟩ := h.tup w
    cases e
    exact .inr (.inl ⟨vs, SqT.of h1, by rw [r1.isEmpty]⟩)
  | _ => cases e
theorem st_tru {K : PySem.W.Frag} {t' : TE} {t : DTE} (h : SE mg t' t) : STt mg (tTru K t') (dTru t) := fun W0 H0 W H σ ρ P Q I q k =>
  h W0 H0 W H σ ρ _ _ I q fun W1 H1 v r ρ1 I1 u1 R1 h1 => by
    split at h1
    · rename_i b e
      exact ⟨b, tru_of (R1.relH I1) I1.wok e, k W1 H1 _ ρ1 I1 u1 h1⟩
    · exact h1.elim
theorem dt_tru {a : Expr} {ta' : TE} {ta : DTE} (ha : DE X a ta' ta) (he : ∀ whole, isTrue a X.env whole = (do let v ← whole; standAt a.pos; holding [v] (truthy v)) := by intro _; rfl) {K : PySem.W.Frag} (hK : X.K = K := by rfl) : DT X a (tTru K ta') (dTru ta) := by subst hK; exact ⟨pt_truth ha.p he, st_tru ha.s⟩
def dAnd (t u : DTT) : DTT := fun ρ P => t ρ fun c ρ1 => sw c (u ρ1 P) (P false ρ1)
def dOr (t u : DTT) : DTT := fun ρ P => t ρ fun c ρ1 => sw c (P true ρ1) (u ρ1 P)
def dNot (t : DTT) : DTT := fun ρ P => t ρ fun c ρ1 => P (!c) ρ1
theorem st_and {t' u' : TT} {t u : DTT} (h : STt mg t' t) (g : STt mg u' u) : STt mg (tAnd t' u') (dAnd t u) := fun W0 H0 W H σ ρ P Q I q k =>
  h W0 H0 W H σ ρ _ _ I q fun W1 H1 b ρ1 I1 u1 h1 => by
    cases b with
    | true =>
      replace h1 := h1.1 rfl; rw [if_pos rfl]
      exact g W0 H0 W1 H1 σ ρ1 _ _ I1 h1 fun W2 H2 c ρ2 I2 u2 h2 => k W2 H2 c ρ2 I2 (u1.trans u2) h2
    | false =>
      replace h1 := h1.2 rfl; rw [if_neg Bool.false_ne_true]
      exact k W1 H1 _ ρ1 I1 u1 h1
theorem st_or {t' u' : TT} {t u : DTT} (h : STt mg t' t) (g : STt mg u' u) : STt mg (tOr t' u') (dOr t u) := fun W0 H0 W H σ ρ P Q I q k =>
  h W0 H0 W H σ ρ _ _ I q fun W1 H1 b ρ1 I1 u1 h1 => by
    cases b with
    | true =>
      replace h1 := h1.1 rfl; rw [if_pos rfl]
      exact k W1 H1 _ ρ1 I1 u1 h1
    | false =>
      replace h1 := h1.2 rfl; rw [if_neg Bool.false_ne_true]
      exact g W0 H0 W1 H1 σ ρ1 _ _ I1 h1 fun W2 H2 c ρ2 I2 u2 h2 => k W2 H2 c ρ2 I2 (u1.trans u2) h2
theorem st_not {t' : TT} {t : DTT} (h : STt mg t' t) : STt mg (tNot t') (dNot t) := fun W0 H0 W H σ ρ P Q I q k =>
  h W0 H0 W H σ ρ _ _ I q fun W1 H1 b ρ1 I1 u1 h1 => k W1 H1 _ ρ1 I1 u1 h1
section
variable {a b c : Expr} {rest : List Expr} {pos : Pos} {t' u' : TT} {t u : DTT}
theorem dw_and1 (h : DT X a t' t) : DW X (.BoolOp .And [a] pos) t' t := ⟨pw_and1 h.p, h.s⟩
theorem dw_or1 (h : DT X a t' t) : DW X (.BoolOp .Or [a] pos) t' t := ⟨pw_or1 h.p, h.s⟩
theorem dw_and (h : DT X a t' t) (g : DW X (.BoolOp .And (b :: rest) pos) u' u) : DW X (.BoolOp .And (a :: b :: rest) pos) (tAnd t' u') (dAnd t u) := ⟨pw_and h.p g.p, st_and h.s g.s⟩
theorem dw_or (h : DT X a t' t) (g : DW X (.BoolOp .Or (b :: rest) pos) u' u) : DW X (.BoolOp .Or (a :: b :: rest) pos) (tOr t' u') (dOr t u) := ⟨pw_or h.p g.p, st_or h.s g.s⟩
theorem DW.dt (h : DW X a t' t) : DT X a t' t := ⟨h.p.pt, h.s⟩
theorem dt_not (h : DT X a t' t) : DT X (.UnaryOp .Not a pos) (tNot t') (dNot t) := ⟨pt_not h.p, st_not h.s⟩
end
/-- the same as values: all of them True or False -/
def dAndV (ta tb : DTE) : DTE := fun ρ P => ta ρ fun r ρ1 => match r with
  | .im (.bl c) => sw c (tb ρ1 P) (P (.im (.bl false)) ρ1)
  | _ => False
def dOrV (ta tb : DTE) : DTE := fun ρ P => ta ρ fun r ρ1 => match r with
  | .im (.bl c) => sw c (P (.im (.bl true)) ρ1) (tb ρ1 P)
  | _ => False
def dNotV (ta : DTE) : DTE := fun ρ P => ta ρ fun r ρ1 => match r with
  | .im (.bl c) => P (.im (.bl (!c))) ρ1
  | _ => False
theorem se_then {σ : L2.St} {W0 W W1 : Wd} {H0 H H1 : Hp} {ρ ρ1 : Rh} {t' : TE} {t : DTE} {P : R → Rh → Prop} {Q : VK} (g : SE mg t' t) (I1 : EnvOk mg W0 H0 W1 H1 σ ρ1) (u1 : Stp σ ρ W H ρ1 W1 H1) (h1 : t ρ1 P) (k : ∀ W' H' v r ρ', EnvOk mg W0 H0 W' H' σ ρ' → Stp σ ρ W H ρ' W' H' → RR mg H W' H' σ ρ' v r → P r ρ' → Q v H') : t' σ H1 Q :=
  g W0 H0 W1 H1 σ ρ1 _ _ I1 h1 fun W2 H2 v r ρ2 I2 u2 R2 h2 => k W2 H2 v r ρ2 I2 (u1.trans u2) (R2.back u1.dom) h2
theorem se_andV {ta' tb' : TE} {ta tb : DTE} (h : SE mg ta' ta) (g : SE mg tb' tb) : SE mg (tAndV ta' tb') (dAndV ta tb) := fun W0 H0 W H σ ρ P Q I q k =>
  h W0 H0 W H σ ρ _ _ I q fun W1 H1 v r ρ1 I1 u1 R1 h1 => by
    split at h1
    · rename_i c
      have R2 : Rel mg W1 v (.bl c) := R1
      cases R2
      refine ⟨_, rfl, ?_⟩
      cases c with
      | true => replace h1 := h1.1 rfl; rw [if_pos rfl]; exact se_then g I1 u1 h1 k
      | false => replace h1 := h1.2 rfl; rw [if_neg Bool.false_ne_true]; exact k W1 H1 _ (.im _) ρ1 I1 u1 (Rel.bl _) h1
    · exact h1.elim
theorem se_orV {ta' tb' : TE} {ta tb : DTE} (h : SE mg ta' ta) (g : SE mg tb' tb) : SE mg (tOrV ta' tb') (dOrV ta tb) := fun W0 H0 W H σ ρ P Q I q k =>
  h W0 H0 W H σ ρ _ _ I q fun W1 H1 v r ρ1 I1 u1 R1 h1 => by
    split at h1
    · rename_i c
      have R2 : Rel mg W1 v (.bl c) := R1
      cases R2
      refine ⟨_, rfl, ?_⟩
      cases c with
      | true => replace h1 := h1.1 rfl; rw [if_pos rfl]; exact k W1 H1 _ (.im _) ρ1 I1 u1 (Rel.bl _) h1
      | false => replace h1 := h1.2 rfl; rw [if_neg Bool.false_ne_true]; exact se_then g I1 u1 h1 k
    · exact h1.elim
theorem se_notV {ta' : TE} {ta : DTE} (h : SE mg ta' ta) : SE mg (tNotV ta') (dNotV ta) := fun W0 H0 W H σ ρ P Q I q k =>
  h W0 H0 W H σ ρ _ _ I q fun W1 H1 v r ρ1 I1 u1 R1 h1 => by
    split at h1
    · rename_i c
      have R2 : Rel mg W1 v (.bl c) := R1
      cases R2
      exact ⟨_, rfl, k W1 H1 _ (.im _) ρ1 I1 u1 (Rel.bl _) h1⟩
    · exact h1.elim
section
variable {a b c : Expr} {op : BoolOp} {rest : List Expr} {pos : Pos} {ta' tb' : TE} {ta tb : DTE}
theorem de_one (h : DE X a ta' ta) : DE X (.BoolOp op [a] pos) ta' ta := ⟨pe_one h.p, h.s⟩
theorem de_and (h : DE X a ta' ta) (g : DE X (.BoolOp .And (b :: rest) pos) tb' tb) : DE X (.BoolOp .And (a :: b :: rest) pos) (tAndV ta' tb') (dAndV ta tb) := ⟨pe_and h.p g.p, se_andV h.s g.s⟩
theorem de_or (h : DE X a ta' ta) (g : DE X (.BoolOp .Or (b :: rest) pos) tb' tb) : DE X (.BoolOp .Or (a :: b :: rest) pos) (tOrV ta' tb') (dOrV ta tb) := ⟨pe_or h.p g.p, se_orV h.s g.s⟩
theorem de_not (h : DE X a ta' ta) : DE X (.UnaryOp .Not a pos) (tNotV ta') (dNotV ta) := ⟨pe_not h.p, se_notV h.s⟩
def dIfE (t : DTT) (ta tb : DTE) : DTE := fun ρ P => t ρ fun c ρ1 => sw c (ta ρ1 P) (tb ρ1 P)
theorem de_if {t' : TT} {t : DTT} (h : DT X c t' t) (ha : DE X a ta' ta) (hb : DE X b tb' tb) : DE X (.IfExp c a b pos) (tIf t' ta' tb') (dIfE t ta tb) := ⟨pe_ifExp h.p ha.p hb.p, fun W0 H0 W H σ ρ P Q I q k =>
  h.s W0 H0 W H σ ρ _ _ I q fun W1 H1 c ρ1 I1 u1 h1 => by
    cases c with
    | true => replace h1 := h1.1 rfl; rw [if_pos rfl]; exact se_then ha.s I1 u1 h1 k
    | false => replace h1 := h1.2 rfl; rw [if_neg Bool.false_ne_true]; exact se_then hb.s I1 u1 h1 k⟩
end

/-! ### arguments, displays -/
def dNil : DTA := fun ρ P => P [] ρ
/-- to still data -/
def dCons (ta : DTE) (tr : DTA) : DTA := fun ρ P => ta ρ fun r ρ1 => tr (frz r ρ1) fun ds ρ2 => P (r.d :: ds) ρ2
/-- read -/
def dConsH (ta : DTE) (tr : DTA) : DTA := fun ρ P => ta ρ fun r ρ1 => tr ρ1 fun ds ρ2 => P (r.d :: ds) ρ2
section
variable {e a : Expr} {es : List Expr} {te' : TE} {te : DTE} {tr' : TA} {tr : DTA} {pos : Pos}
theorem da_nil : DA X [] tNil dNil := ⟨pa_nil, fun W0 H0 W H σ ρ P Q I h k => k W H [] [] ρ I Stp.refl .nil h⟩
theorem dh_nil : DAh X [] tNil dNil := ⟨pa_nil, fun W0 H0 W H σ ρ P Q I h k => k W H [] [] ρ I Stp.refl .nil h⟩
theorem da_cons (he : DE X e te' te) (hr : DA X es tr' tr) (hs : starEach (e :: es) X.env = (false, eval e X.env) :: starEach es X.env := by rfl) : DA X (e :: es) (tCons te' tr') (dCons te tr) := ⟨pa_cons he.p hr.p hs, fun W0 H0 W H σ ρ P Q I h k =>
  he.s W0 H0 W H σ ρ _ _ I h fun W1 H1 v r ρ1 I1 u1 R1 h1 => by
    obtain ⟨W2, I2, u2, r2⟩ := u1.settle I I1 R1
    exact hr.s W0 H0 W2 H1 σ _ _ _ I2 h1 fun W3 H3 vs ds ρ3 I3 u3 R3 h3 => k W3 H3 _ _ ρ3 I3 (u2.trans u3) (.cons (r2.mono u3.le) R3) h3⟩
theorem dh_cons (he : DE X e te' te) (hr : DAh X es tr' tr) (hs : starEach (e :: es) X.env = (false, eval e X.env) :: starEach es X.env := by rfl) : DAh X (e :: es) (tCons te' tr') (dConsH te tr) := ⟨pa_cons he.p hr.p hs, fun W0 H0 W H σ ρ P Q I h k =>
  he.s W0 H0 W H σ ρ _ _ I h fun W1 H1 v r ρ1 I1 u1 R1 h1 =>
    hr.s W0 H0 W1 H1 σ _ _ _ I1 h1 fun W3 H3 vs ds ρ3 I3 u3 R3 h3 => k W3 H3 _ _ ρ3 I3 (u1.trans u3) (.cons ((R1.relH I1).up u3.toUp) R3) h3⟩
def dTup (t : DTA) : DTE := fun ρ P => t ρ fun ds ρ1 => ds.length ≤ sizeLine ∧ P (.im (.tup ds)) ρ1
def dLst (t : DTA) : DTE := fun ρ P => t ρ fun ds ρ1 => ds.length ≤ sizeLine ∧ P (.fr ds) ρ1
theorem se_tup (h : SA mg tr' tr) : SE mg (tTup tr') (dTup tr) := fun W0 H0 W H σ ρ P Q I q k =>
  h W0 H0 W H σ ρ _ _ I q fun W1 H1 vs ds ρ1 I1 u1 R1 h1 => ⟨by rw [R1.length]; exact h1.1, fun p hp => by
    obtain ⟨k1, k2, k3⟩ := rf_tup I1.wok hp R1
    exact k _ _ _ (.im _) ρ1 (I1.step k2 k1) (u1.trans k2.stp) k3 h1.2⟩
theorem se_lst (h : SA mg tr' tr) : SE mg (tLst tr') (dLst tr) := fun W0 H0 W H σ ρ P Q I q k =>
  h W0 H0 W H σ ρ _ _ I q fun W1 H1 vs ds ρ1 I1 u1 R1 h1 => ⟨by rw [R1.length]; exact h1.1, fun p hp => by
    obtain ⟨k1, k2, k3⟩ := rf_new I1.wok hp R1
    exact k _ _ _ (.fr _) ρ1 (I1.step k2 k1) (u1.trans k2.stp) ((RF.rr k3 I1).back u1.dom) h1.2⟩
theorem de_tup {x1} (h : DA X es tr' tr) : DE X (.Tuple es x1 pos) (tTup tr') (dTup tr) := ⟨pe_tup h.p, se_tup h.s⟩
theorem de_lst (h : DA X es tr' tr) : DE X (.List es pos) (tLst tr') (dLst tr) := ⟨pe_lst h.p, se_lst h.s⟩

/-! ### calls of built-ins -/
def dCB (o : List D → (R → Prop) → Prop) (t : DTA) : DTE := fun ρ P => t ρ fun ds ρ1 => o ds fun r => P r ρ1
theorem se_cb {r : List V → Hp → VK → Prop} {o : List D → (R → Prop) → Prop} (ho : CaS mg r o) (h : SAh mg tr' tr) : SE mg (tCB r tr') (dCB o tr) := fun W0 H0 W H σ ρ P Q I q k =>
  h W0 H0 W H σ ρ _ _ I q fun W1 H1 vs ds ρ1 I1 u1 R1 h1 =>
    ho W1 H1 vs ds _ _ I1.wok R1 h1 fun W3 H3 v r3 w3 e3 f3 p3 => k W3 H3 v r3 ρ1 (I1.step e3 w3) (u1.trans e3.stp) ((f3.rr I1).back u1.dom) p3
variable {r : List V → Hp → VK → Prop} {o : List D → (R → Prop) → Prop} {x : Str} {id T : String} {p : Pos}
theorem de_callB (hc : DC X (.builtin id) r o) (hg : Gl X x) (hm : X.mg x = none) (hv : bootBuiltins x = some (.builtin id)) (ha : DAh X (e :: es) tr' tr) (hn : x ≠ "__name__" := by decide) (hdb : (x == ("__debug__" : Str)) = false := by decide)
    (he : starEach (e :: es) X.env = (false, eval e X.env) :: starEach es X.env := by rfl) (hpl : (backTo pos (starEach es X.env)).any (·.1) = false := by rfl) : DE X (.Call (.Name x p) (e :: es) [] pos) (tCB r tr') (dCB o tr) :=
  ⟨pe_callB hc.p hg hm hv ha.p hn hdb he hpl, se_cb hc.s ha.s⟩
theorem de_callTy (hc : DC X (.type T) r o) (hg : Gl X x) (hm : X.mg x = none) (hv : bootBuiltins x = some (.type T)) (ha : DAh X (e :: es) tr' tr) (hn : x ≠ "__name__" := by decide) (hdb : (x == ("__debug__" : Str)) = false := by decide)
    (he : starEach (e :: es) X.env = (false, eval e X.env) :: starEach es X.env := by rfl) (hpl : (backTo pos (starEach es X.env)).any (·.1) = false := by rfl) : DE X (.Call (.Name x p) (e :: es) [] pos) (tCB r tr') (dCB o tr) :=
  ⟨pe_callTy hc.p hg hm hv ha.p hn hdb he hpl, se_cb hc.s ha.s⟩
end
theorem RelH.scr {ds : List D} (h : RelH mg W H v (.scr ds)) (w : WOk W H) : ∃ a vs, v = .ref a ∧ SqL mg.K H a vs ∧ RelL mg W vs ds := by
  rcases h with h | ⟨_, _, _, _, e, _⟩
  · cases h with
    | scr h1 h2 => exact ⟨_, _, rfl, Same.seq w.sub h1, h2⟩
  · cases e
theorem RelHL.one {xs : List V} {d : D} (h : RelHL mg W H xs [d]) : ∃ v, xs = [v] ∧ RelH mg W H v d := by
  cases h with
  | cons a b => cases b; exact ⟨_, rfl, a⟩
theorem RelHL.two {xs : List V} {d e : D} (h : RelHL mg W H xs [d, e]) : ∃ v u, xs = [v, u] ∧ RelH mg W H v d ∧ RelH mg W H u e := by
  cases h with
  | cons a b =>
    obtain ⟨u, rfl, b1⟩ := b.one
    exact ⟨_, _, rfl, a, b1⟩
/-- len -/
def oLen : List D → (R → Prop) → Prop := fun ds P => match ds with
  | [.lst xs] => P (.im (.int xs.length))
  | [.tup xs] => P (.im (.int xs.length))
  | [.str z] => z.length ≤ sizeLine ∧ P (.im (.int z.length))
  | [.scr xs] => P (.im (.int xs.length))
  | _ => False
theorem call_len_any : CallR X (.builtin "len") (fun xs H Q => (∃ p ys, xs = [.ref p] ∧ (SqL X.K H p ys ∨ SqT X.K H p ys) ∧ Q (.int ys.length) H) ∨ (∃ z, xs = [.str z] ∧ z.length ≤ sizeLine ∧ Q (.int z.length) H)) :=
  fun pins s σ H xs us Q I r h => h.elim (fun h => call_len_seq pins s σ H xs us Q I r h) fun h => call_len_str pins s σ H xs us Q I r h
def rLenA (K : PySem.W.Frag) : List V → Hp → VK → Prop := fun xs H Q => (∃ p ys, xs = [.ref p] ∧ (SqL K H p ys ∨ SqT K H p ys) ∧ Q (.int ys.length) H) ∨ (∃ z, xs = [.str z] ∧ z.length ≤ sizeLine ∧ Q (.int z.length) H)
theorem dc_len0 : DC X (.builtin "len") (rLenA X.K) oLen := ⟨call_len_any, fun W H xs ds P Q w a o k => by
  unfold oLen at o
  split at o
  · obtain ⟨v, rfl, a1⟩ := a.one
    obtain ⟨p, vs, rfl, h1, n1, r1⟩ := a1.lst w
    exact .inl ⟨p, vs, rfl, .inl (SqL.of h1), k W H _ (.im _) w (Ext.refl _ _) (by rw [r1.length]; exact Rel.int _) o⟩
  · obtain ⟨v, rfl, a1⟩ := a.one
    obtain ⟨p, vs, rfl, h1, n1, r1⟩ := a1.tup w
    exact .inl ⟨p, vs, rfl, .inr (SqT.of h1), k W H _ (.im _) w (Ext.refl _ _) (by rw [r1.length]; exact Rel.int _) o⟩
  · obtain ⟨v, rfl, a1⟩ := a.one
    exact .inr ⟨_, by rw [a1.str], o.1, k W H _ (.im _) w (Ext.refl _ _) (Rel.int _) o.2⟩
  · obtain ⟨v, rfl, a1⟩ := a.one
    obtain ⟨p, vs, rfl, h1, r1⟩ := a1.scr w
    exact .inl ⟨p, vs, rfl, .inl h1, k W H _ (.im _) w (Ext.refl _ _) (by rw [r1.length]; exact Rel.int _) o⟩
  · exact o.elim⟩
/-- tuple, list -/
def oTupOf : List D → (R → Prop) → Prop := fun ds P => match ds with
  | [.lst xs] => P (.im (.tup xs))
  | [.tup xs] => P (.im (.tup xs))
  | _ => False
def rTupOf (K : PySem.W.Frag) : List V → Hp → VK → Prop := fun xs H Q => ∃ p ys, xs = [.ref p] ∧ ((SqL K H p ys ∧ ∀ l, H l = none → Q (.ref l) (upd H l (.tup ys))) ∨ (SqT K H p ys ∧ Q (.ref p) H))
theorem dc_tuple0 : DC X (.type "tuple") (rTupOf X.K) oTupOf := ⟨call_tuple_of, fun W H xs ds P Q w a o k => by
  unfold oTupOf at o
  split at o
  · obtain ⟨v, rfl, a1⟩ := a.one
    obtain ⟨p, vs, rfl, h1, n1, r1⟩ := a1.lst w
    refine ⟨p, vs, rfl, .inl ⟨SqL.of h1, fun l hl => ?_⟩⟩
    obtain ⟨k1, k2, k3⟩ := rf_tup w hl r1
    exact k _ _ _ (.im _) k1 k2 k3 o
  · obtain ⟨v, rfl, a1⟩ := a.one
    obtain ⟨p, vs, rfl, h1, f1, r1⟩ := a1.tup w
    exact ⟨p, vs, rfl, .inr ⟨SqT.of h1, k W H _ (.im _) w (Ext.refl _ _) (Rel.tup f1 r1) o⟩⟩
  · exact o.elim⟩
def oListOf : List D → (R → Prop) → Prop := fun ds P => match ds with
  | [.lst xs] => P (.fr xs)
  | [.tup xs] => P (.fr xs)
  | _ => False
def rListOf (K : PySem.W.Frag) : List V → Hp → VK → Prop := fun xs H Q => ∃ p ys, xs = [.ref p] ∧ (SqL K H p ys ∨ SqT K H p ys) ∧ ∀ l, H l = none → Q (.ref l) (upd H l (.lst ys))
theorem dc_list0 : DC X (.type "list") (rListOf X.K) oListOf := ⟨call_list_of, fun W H xs ds P Q w a o k => by
  unfold oListOf at o
  split at o
  · obtain ⟨v, rfl, a1⟩ := a.one
    obtain ⟨p, vs, rfl, h1, n1, r1⟩ := a1.lst w
    refine ⟨p, vs, rfl, .inl (SqL.of h1), fun l hl => ?_⟩
    obtain ⟨k1, k2, k3⟩ := rf_new w hl r1
    exact k _ _ _ (.fr _) k1 k2 k3 o
  · obtain ⟨v, rfl, a1⟩ := a.one
    obtain ⟨p, vs, rfl, h1, f1, r1⟩ := a1.tup w
    refine ⟨p, vs, rfl, .inr (SqT.of h1), fun l hl => ?_⟩
    obtain ⟨k1, k2, k3⟩ := rf_new w hl r1
    exact k _ _ _ (.fr _) k1 k2 k3 o
  · exact o.elim⟩
/-- int -/
def oIntOf : List D → (R → Prop) → Prop := fun ds P => match ds with
  | [.int i] => P (.im (.int i))
  | [.bl b] => P (.im (.int (if b then 1 else 0)))
  | _ => False
def rIntOf : List V → Hp → VK → Prop := fun xs H Q => (∃ i, xs = [.int i] ∧ Q (.int i) H) ∨ ∃ k, xs = [.bl k] ∧ Q (.int (if k then 1 else 0)) H
theorem dc_int : DC X (.type "int") rIntOf oIntOf := ⟨call_int1, fun W H xs ds P Q w a o k => by
  unfold oIntOf at o
  split at o
  · obtain ⟨v, rfl, a1⟩ := a.one
    exact .inl ⟨_, by rw [a1.int], k W H _ (.im _) w (Ext.refl _ _) (Rel.int _) o⟩
  · obtain ⟨v, rfl, a1⟩ := a.one
    exact .inr ⟨_, by rw [a1.bl], k W H _ (.im _) w (Ext.refl _ _) (Rel.int _) o⟩
  · exact o.elim⟩
def oI2 (g : Int → Int → Int) : List D → (R → Prop) → Prop := fun ds P => match ds with
  | [.int i, .int j] => P (.im (.int (g i j)))
  | _ => False
def rI2 (g : Int → Int → Int) : List V → Hp → VK → Prop := fun xs H Q => ∃ i j, xs = [.int i, .int j] ∧ Q (.int (g i j)) H
theorem cs_I2 {g : Int → Int → Int} : CaS mg (rI2 g) (oI2 g) := fun W H xs ds P Q w a o k => by
  unfold oI2 at o
  split at o
  · obtain ⟨v, u, rfl, a1, b1⟩ := a.two
    exact ⟨_, _, by rw [a1.int, b1.int], k W H _ (.im _) w (Ext.refl _ _) (Rel.int _) o⟩
  · exact o.elim
theorem dc_max2 (hc : X.calm = true) : DC X (.builtin "max") (rI2 fun i j => if j > i then j else i) (oI2 fun i j => if j > i then j else i) := ⟨call_max2 hc, cs_I2⟩
theorem dc_min2 (hc : X.calm = true) : DC X (.builtin "min") (rI2 fun i j => if j < i then j else i) (oI2 fun i j => if j < i then j else i) := ⟨call_min2 hc, cs_I2⟩
def oAbs : List D → (R → Prop) → Prop := fun ds P => match ds with
  | [.int i] => P (.im (.int (if i < 0 then -i else i)))
  | _ => False
def rAbs : List V → Hp → VK → Prop := fun xs H Q => ∃ i, xs = [.int i] ∧ Q (.int (if i < 0 then -i else i)) H
theorem dc_abs : DC X (.builtin "abs") rAbs oAbs := ⟨call_abs, fun W H xs ds P Q w a o k => by
  unfold oAbs at o
  split at o
  · obtain ⟨v, rfl, a1⟩ := a.one
    exact ⟨_, by rw [a1.int], k W H _ (.im _) w (Ext.refl _ _) (Rel.int _) o⟩
  · exact o.elim⟩
/-- bools of data -/
def blsOf : List D → Option (List Bool)
  | [] => some []
  | .bl b :: r => (blsOf r).map (b :: ·)
  | _ => none
theorem blsOf_map : ∀ {ds : List D} {bs : List Bool}, blsOf ds = some bs → ds = bs.map D.bl
  | [], _, h => by cases h; rfl
  | .bl b :: r, bs, h => by
    unfold blsOf at h
    cases e : blsOf r with
    | none => rw [e] at h; cases h
    | some cs => rw [e] at h; cases h; rw [blsOf_map e]; rfl
  | .non :: _, _, h => by cases h
  | .int _ :: _, _, h => by cases h
  | .str _ :: _, _, h => by cases h
  | .tup _ :: _, _, h => by cases h
  | .lst _ :: _, _, h => by cases h
  | .dic _ :: _, _, h => by cases h
  | .obj _ _ :: _, _, h => by cases h
  | .purse :: _, _, h => by cases h
  | .scr _ :: _, _, h => by cases h
theorem blsOf_bls : ∀ bs : List Bool, blsOf (bs.map D.bl) = some bs
  | [] => rfl
  | b :: r => by show (blsOf (r.map D.bl)).map (b :: ·) = _; rw [blsOf_bls r]; rfl
def intsOf : List D → Option (List Int)
  | [] => some []
  | .int b :: r => (intsOf r).map (b :: ·)
  | _ => none
theorem intsOf_map : ∀ {ds : List D} {bs : List Int}, intsOf ds = some bs → ds = bs.map D.int
  | [], _, h => by cases h; rfl
  | .int b :: r, bs, h => by
    unfold intsOf at h
    cases e : intsOf r with
    | none => rw [e] at h; cases h
    | some cs => rw [e] at h; cases h; rw [intsOf_map e]; rfl
  | .non :: _, _, h => by cases h
  | .bl _ :: _, _, h => by cases h
  | .str _ :: _, _, h => by cases h
  | .tup _ :: _, _, h => by cases h
  | .lst _ :: _, _, h => by cases h
  | .dic _ :: _, _, h => by cases h
  | .obj _ _ :: _, _, h => by cases h
  | .purse :: _, _, h => by cases h
  | .scr _ :: _, _, h => by cases h
theorem intsOf_ints : ∀ bs : List Int, intsOf (bs.map D.int) = some bs
  | [] => rfl
  | b :: r => by show (intsOf (r.map D.int)).map (b :: ·) = _; rw [intsOf_ints r]; rfl
def oBs (g : List Bool → Bool) : List D → (R → Prop) → Prop := fun ds P => match ds with
  | [.lst xs] => ∃ bs, blsOf xs = some bs ∧ P (.im (.bl (g bs)))
  | _ => False
theorem dc_all0 (hc : X.calm = true) : DC X (.builtin "all") (rAll X.K) (oBs fun bs => bs.all id) := ⟨cr_all hc, fun W H xs ds P Q w a o k => by
  unfold oBs at o
  split at o
  · obtain ⟨bs, e, o⟩ := o
    obtain ⟨v, rfl, a1⟩ := a.one
    obtain ⟨p, vs, rfl, h1, n1, r1⟩ := a1.lst w
    rw [blsOf_map e] at r1
    exact ⟨p, bs, rfl, by rw [← r1.bls]; exact SqL.of h1, k W H _ (.im _) w (Ext.refl _ _) (Rel.bl _) o⟩
  · exact o.elim⟩
theorem dc_any0 (hc : X.calm = true) : DC X (.builtin "any") (rAny X.K) (oBs fun bs => bs.any id) := ⟨cr_any hc, fun W H xs ds P Q w a o k => by
  unfold oBs at o
  split at o
  · obtain ⟨bs, e, o⟩ := o
    obtain ⟨v, rfl, a1⟩ := a.one
    obtain ⟨p, vs, rfl, h1, n1, r1⟩ := a1.lst w
    rw [blsOf_map e] at r1
    exact ⟨p, bs, rfl, by rw [← r1.bls]; exact SqL.of h1, k W H _ (.im _) w (Ext.refl _ _) (Rel.bl _) o⟩
  · exact o.elim⟩
def oSum : List D → (R → Prop) → Prop := fun ds P => match ds with
  | [.lst xs] => ∃ bs, intsOf xs = some bs ∧ P (.im (.int bs.sum))
  | _ => False
theorem dc_sum0 (hc : X.calm = true) : DC X (.builtin "sum") (rSum X.K) oSum := ⟨cr_sum hc, fun W H xs ds P Q w a o k => by
  unfold oSum at o
  split at o
  · obtain ⟨bs, e, o⟩ := o
    obtain ⟨v, rfl, a1⟩ := a.one
    obtain ⟨p, vs, rfl, h1, n1, r1⟩ := a1.lst w
    rw [intsOf_map e] at r1
    exact ⟨p, bs, rfl, by rw [← r1.ints]; exact SqL.of h1, k W H _ (.im _) w (Ext.refl _ _) (Rel.int _) o⟩
  · exact o.elim⟩
def oMax (le : Int → Int → Prop) : List D → (R → Prop) → Prop := fun ds P => match ds with
  | [.lst xs] => ∃ bs, intsOf xs = some bs ∧ 0 < bs.length ∧ ∀ m, m ∈ bs → (∀ y, y ∈ bs → le y m) → P (.im (.int m))
  | _ => False
theorem dc_max0 (hc : X.calm = true) : DC X (.builtin "max") (rMax X.K) (oMax fun y m => y ≤ m) := ⟨cr_max hc, fun W H xs ds P Q w a o k => by
  unfold oMax at o
  split at o
  · obtain ⟨bs, e, hl, o⟩ := o
    obtain ⟨v, rfl, a1⟩ := a.one
    obtain ⟨p, vs, rfl, h1, n1, r1⟩ := a1.lst w
    rw [intsOf_map e] at r1
    exact ⟨p, bs, rfl, by rw [← r1.ints]; exact SqL.of h1, hl, fun m h2 h3 => k W H _ (.im _) w (Ext.refl _ _) (Rel.int _) (o m h2 h3)⟩
  · exact o.elim⟩
theorem dc_min0 (hc : X.calm = true) : DC X (.builtin "min") (rMin X.K) (oMax fun y m => m ≤ y) := ⟨cr_min hc, fun W H xs ds P Q w a o k => by
  unfold oMax at o
  split at o
  · obtain ⟨bs, e, hl, o⟩ := o
    obtain ⟨v, rfl, a1⟩ := a.one
    obtain ⟨p, vs, rfl, h1, n1, r1⟩ := a1.lst w
    rw [intsOf_map e] at r1
    exact ⟨p, bs, rfl, by rw [← r1.ints]; exact SqL.of h1, hl, fun m h2 h3 => k W H _ (.im _) w (Ext.refl _ _) (Rel.int _) (o m h2 h3)⟩
  · exact o.elim⟩
theorem do_eq (hu : X.A.units + 64 < cLine) {K : PySem.W.Frag} (hK : X.K = K := by rfl) : DO X (compareOp .Eq) (rEqD K) oEq := by subst hK; exact do_eq0 hu
theorem do_ne (hu : X.A.units + 64 < cLine) {K : PySem.W.Frag} (hK : X.K = K := by rfl) : DO X (compareOp .NotEq) (rNeD K) oNe := by subst hK; exact do_ne0 hu
theorem do_in  {K : PySem.W.Frag} (hK : X.K = K := by rfl) : DO X (compareOp .In) (rIn K false) (oIn id) := by subst hK; exact do_in0 
theorem do_notIn  {K : PySem.W.Frag} (hK : X.K = K := by rfl) : DO X (compareOp .NotIn) (rIn K true) (oIn not) := by subst hK; exact do_notIn0 
theorem dc_len  {K : PySem.W.Frag} (hK : X.K = K := by rfl) : DC X (.builtin "len") (rLenA K) oLen := by subst hK; exact dc_len0 
theorem dc_tuple  {K : PySem.W.Frag} (hK : X.K = K := by rfl) : DC X (.type "tuple") (rTupOf K) oTupOf := by subst hK; exact dc_tuple0 
theorem dc_list  {K : PySem.W.Frag} (hK : X.K = K := by rfl) : DC X (.type "list") (rListOf K) oListOf := by subst hK; exact dc_list0 
theorem dc_all (hc : X.calm = true) {K : PySem.W.Frag} (hK : X.K = K := by rfl) : DC X (.builtin "all") (rAll K) (oBs fun bs => bs.all id) := by subst hK; exact dc_all0 hc
theorem dc_any (hc : X.calm = true) {K : PySem.W.Frag} (hK : X.K = K := by rfl) : DC X (.builtin "any") (rAny K) (oBs fun bs => bs.any id) := by subst hK; exact dc_any0 hc
theorem dc_sum (hc : X.calm = true) {K : PySem.W.Frag} (hK : X.K = K := by rfl) : DC X (.builtin "sum") (rSum K) oSum := by subst hK; exact dc_sum0 hc
theorem dc_max (hc : X.calm = true) {K : PySem.W.Frag} (hK : X.K = K := by rfl) : DC X (.builtin "max") (rMax K) (oMax fun y m => y ≤ m) := by subst hK; exact dc_max0 hc
theorem dc_min (hc : X.calm = true) {K : PySem.W.Frag} (hK : X.K = K := by rfl) : DC X (.builtin "min") (rMin K) (oMax fun y m => m ≤ y) := by subst hK; exact dc_min0 hc
end
end DL
/-! Deep readings: statements, loops, comprehensions, calls of defs. -/
namespace DL
open PySem PySem.Spec PyProof.Rows L2
section
variable {X : Cx} {mg : Gm} {W W' : Wd} {H H' : Hp} {v x y : V}

/-! ### statements -/
def dNext : DTS := fun nx _ _ _ ρ => nx ρ
def dSeq (t u : DTS) : DTS := fun nx rt bk ct ρ => t (u nx rt bk ct) rt bk ct ρ
theorem ss_next : SS mg tNext dNext := fun W0 H0 W H σ ρ P E I h e => e.nx W H σ ρ (Wle.refl _) I h
theorem ss_seq {t' u' : TS} {t u : DTS} (h : SS mg t' t) (g : SS mg u' u) : SS mg (tSeq t' u') (dSeq t u) := fun W0 H0 W H σ ρ P E I q e =>
  h W0 H0 W H σ ρ { P with nx := u P.nx P.rt P.bk P.ct } { E with nx := u' E } I q ⟨fun W' H' σ' ρ' l I' q' => g W0 H0 W' H' σ' ρ' P E I' q' (e.le l), e.bk, e.ct, e.rt⟩
theorem dss_nil : DSs X [] tNext dNext := ⟨pss_nil, ss_next⟩
section
variable {st : Stmt} {rest : List Stmt} {t' u' : TS} {t u : DTS}
theorem dss_cons (h : DS X st t' t) (g : DSs X rest u' u) : DSs X (st :: rest) (tSeq t' u') (dSeq t u) := ⟨pss_cons h.p g.p, ss_seq h.s g.s⟩
theorem dss_one (h : DS X st t' t) : DSs X [st] t' t := ⟨pss_one h.p, h.s⟩
end
def dNever : DTS := fun _ _ _ _ _ => False
theorem ds_never {st : Stmt} : DS X st tNever dNever := ⟨ps_never, fun W0 H0 W H σ ρ P E I h e => h.elim⟩
theorem ds_pass {pos : Pos} : DS X (.Pass pos) tNext dNext := ⟨ps_pass, ss_next⟩
def dBreak : DTS := fun _ _ bk _ ρ => bk ρ
def dCont : DTS := fun _ _ _ ct ρ => ct ρ
theorem ds_break {pos : Pos} : DS X (.Break pos) tBreak dBreak := ⟨ps_break, fun W0 H0 W H σ ρ P E I h e => e.bk W H σ ρ (Wle.refl _) I h⟩
theorem ds_continue {pos : Pos} : DS X (.Continue pos) tCont dCont := ⟨ps_continue, fun W0 H0 W H σ ρ P E I h e => e.ct W H σ ρ (Wle.refl _) I h⟩
theorem ds_doc {x j pos pos'} : DS X (.Expr (.Constant (.str x) j pos) pos') tNext dNext := ⟨ps_doc, ss_next⟩
section
variable {e : Expr} {pos : Pos} {te' : TE} {te : DTE}
def dRet (te : DTE) : DTS := fun _ rt _ _ ρ => te ρ fun r _ => rt r.out
theorem ds_ret (he : DE X e te' te) : DS X (.Return (some e) pos) (tRet te') (dRet te) := ⟨ps_ret he.p, fun W0 H0 W H σ ρ P E I h k =>
  he.s W0 H0 W H σ ρ _ _ I h fun W1 H1 v r ρ1 I1 u1 R1 h1 => k.rt W1 H1 v _ I1.wok I1.ext (R1.rf I1 fun a q => I.ext.dom a q) h1⟩
def dRetN : DTS := fun _ rt _ _ _ => rt (.im .non)
theorem ds_retN : DS X (.Return none pos) tRetN dRetN := ⟨ps_retN, fun W0 H0 W H σ ρ P E I h k => k.rt W H .non (.im .non) I.wok I.ext Rel.non h⟩
def dDrop (te : DTE) : DTS := fun nx _ _ _ ρ => te ρ fun _ ρ1 => nx ρ1
theorem ds_expr (he : DE X e te' te) (hs : swapsWith e none pos.line X.env = pure false := by rfl) : DS X (.Expr e pos) (tDrop te') (dDrop te) := ⟨ps_expr he.p hs, fun W0 H0 W H σ ρ P E I h k =>
  he.s W0 H0 W H σ ρ _ _ I h fun W1 H1 v r ρ1 I1 u1 R1 h1 => k.nx W1 H1 σ ρ1 u1.le I1 h1⟩
end
section
variable {c : Expr} {a b : List Stmt} {pos : Pos} {tc' : TT} {tc : DTT} {t' u' : TS} {t u : DTS}
def dIf (c : DTT) (t u : DTS) : DTS := fun nx rt bk ct ρ => c ρ fun b ρ1 => sw b (t nx rt bk ct ρ1) (u nx rt bk ct ρ1)
theorem ds_if (hc : DT X c tc' tc) (ha : DSs X a t' t) (hb : DSs X b u' u) : DS X (.If c a b pos) (tIfS tc' t' u') (dIf tc t u) := ⟨ps_if hc.p ha.p hb.p, fun W0 H0 W H σ ρ P E I h k =>
  hc.s W0 H0 W H σ ρ _ _ I h fun W1 H1 b ρ1 I1 u1 h1 => by
    cases b with
    | true => replace h1 := h1.1 rfl; rw [if_pos rfl]; exact ha.s W0 H0 W1 H1 σ ρ1 P E I1 h1 (k.le u1.le)
    | false => replace h1 := h1.2 rfl; rw [if_neg Bool.false_ne_true]; exact hb.s W0 H0 W1 H1 σ ρ1 P E I1 h1 (k.le u1.le)⟩
/-- while: an invariant that falls -/
def dWhile (c : DTT) (t : DTS) : DTS := fun nx rt _ _ ρ => ∃ I : Nat → Rh → Prop, (∃ m, I m ρ) ∧ ∀ m ρ, I m ρ →
  c ρ fun b ρ1 => sw b (t (fun ρ' => ∃ m', m' < m ∧ I m' ρ') rt nx (fun ρ' => ∃ m', m' < m ∧ I m' ρ') ρ1) (nx ρ1)
theorem ds_while {body : List Stmt} (hp : PassesOwn (model X.prog X.w) X.A X.env X.xe) (hc : DT X c tc' tc) (hb : DSs X body t' t) : DS X (.While c body [] pos) (tWhile tc' t') (dWhile tc t) := ⟨ps_while hp hc.p hb.p, fun W0 H0 W H σ ρ P E I0 h k => by
  obtain ⟨J, ⟨m0, j0⟩, turn⟩ := h
  refine ⟨fun m σ H => ∃ W1 ρ1, Wle W W1 ∧ EnvOk (gm X) W0 H0 W1 H σ ρ1 ∧ J m ρ1, ⟨m0, W, ρ, Wle.refl _, I0, j0⟩, ?_⟩
  rintro m σ1 H1 ⟨W1, ρ1, l1, I1, j1⟩
  refine hc.s W0 H0 W1 H1 σ1 ρ1 _ _ I1 (turn m ρ1 j1) fun W2 H2 b ρ2 I2 u2 h2 => ?_
  cases b with
  | true =>
    replace h2 := h2.1 rfl; rw [if_pos rfl]
    refine ⟨fun σ' H' => ∃ m', m' < m ∧ ∃ W1 ρ1, Wle W W1 ∧ EnvOk (gm X) W0 H0 W1 H' σ' ρ1 ∧ J m' ρ1, fun _ _ z => z, ?_⟩
    refine hb.s W0 H0 W2 H2 σ1 ρ2 ⟨fun ρ' => ∃ m', m' < m ∧ J m' ρ', P.rt, P.nx, fun ρ' => ∃ m', m' < m ∧ J m' ρ'⟩ _ I2 h2 ⟨fun W' H' σ' ρ' l I' q => ?_, fun W' H' σ' ρ' l I' q => k.nx W' H' σ' ρ' ((l1.trans u2.le).trans l) I' q, fun W' H' σ' ρ' l I' q => ?_, k.rt⟩
    · obtain ⟨m', lt, j⟩ := q
      exact ⟨m', lt, W', ρ', (l1.trans u2.le).trans l, I', j⟩
    · obtain ⟨m', lt, j⟩ := q
      exact ⟨m', lt, W', ρ', (l1.trans u2.le).trans l, I', j⟩
  | false =>
    replace h2 := h2.2 rfl; rw [if_neg Bool.false_ne_true]
    exact k.nx W2 H2 σ1 ρ2 (l1.trans u2.le) I2 h2⟩
end

/-! ### targets -/
def gNm (i : Nat) : DTG := fun r ρ P => P (store i r ρ)
theorem sg_name (i : Nat) : SG mg (gName i) (gNm i) := fun W0 H0 Hs W H σ ρ v r P Q I h hd g k => by
  obtain ⟨W1, I1, l1⟩ := I.put i h hd
  exact k W1 H (σ.set i (some v)) _ l1 I1 g
theorem dg_name {i : Nat} {x : Str} {pos : Pos} (hN : X.N.Nodup) (hi : X.N[i]? = some x) (hx : Loc X.env.scope x) (hf : X.fn x = true ∨ X.env.scope.names.lookup x = some .local := by first | exact .inl rfl | exact .inr rfl | assumption) : DG X (.Name x pos) (gName i) (gNm i) := ⟨pg_name hN hi hx hf, sg_name i⟩
abbrev DTGs := List D → Rh → (Rh → Prop) → Prop
def SGs (mg : Gm) (g' : TGs) (g : DTGs) : Prop := ∀ W0 H0 W H σ ρ vs ds P Q, EnvOk mg W0 H0 W H σ ρ → RelL mg W vs ds → g ds ρ P → (∀ W' H' σ' ρ', Wle W W' → EnvOk mg W0 H0 W' H' σ' ρ' → P ρ' → Q σ' H') → g' vs σ H Q
structure DGs (X : Cx) (es : List Expr) (g' : TGs) (g : DTGs) : Prop where
  p : PGs X es g'
  s : SGs (gm X) g' g
def gNi : DTGs := fun ds ρ P => ds = [] ∧ P ρ
def gCo (t : DTG) (u : DTGs) : DTGs := fun ds ρ P => match ds with
  | d :: r => t (.im d) ρ fun ρ1 => u r ρ1 P
  | [] => False
theorem dgs_nil : DGs X [] gNil gNi := ⟨pgs_nil, fun W0 H0 W H σ ρ vs ds P Q I h g k => by
  obtain ⟨e, g⟩ := g
  subst e
  cases h
  exact ⟨rfl, k W H σ ρ (Wle.refl _) I g⟩⟩
theorem dgs_cons {e : Expr} {es : List Expr} {t' : TG} {t : DTG} {u' : TGs} {u : DTGs} (h1 : DG X e t' t) (h2 : DGs X es u' u) (hs : (assignEach (e :: es) X.env).map (·.2) = assign e X.env :: (assignEach es X.env).map (·.2) := by rfl) : DGs X (e :: es) (gCons t' u') (gCo t u) := ⟨pgs_cons h1.p h2.p hs, fun W0 H0 W H σ ρ vs ds P Q I h g k => by
  cases h with
  | nil => exact g.elim
  | cons a b =>
    refine ⟨_, _, rfl, ?_⟩
    exact h1.s W0 H0 H0 W H σ ρ _ (.im _) _ _ I a (fun _ q => q) g fun W1 H1 σ1 ρ1 l1 I1 g1 => h2.s W0 H0 W1 H1 σ1 ρ1 _ _ _ _ I1 (b.mono l1) g1 fun W2 H2 σ2 ρ2 l2 I2 g2 => k W2 H2 σ2 ρ2 (l1.trans l2) I2 g2⟩
def gTu (n : Nat) (t : DTGs) : DTG := fun r ρ P => match r with
  | .im (.tup ds) => ds.length = n ∧ t ds ρ P
  | _ => False
theorem dg_tup {es : List Expr} {k : Nat} {t' : TGs} {t : DTGs} {n : Nat} {pos : Pos} (hc : X.calm = true) (h : DGs X es t' t) (hn : (assignEach es X.env).length = n := by rfl) (hst : (assignEach es X.env).findIdx? (·.1) = none := by rfl) : DG X (.Tuple es k pos) (gTup X.K n t') (gTu n t) := ⟨pg_tup hc h.p hn hst, fun W0 H0 Hs W H σ ρ v r P Q I hr hd g k => by
  unfold gTu at g
  split at g
  · rename_i ds
    obtain ⟨a, vs, rfl, h1, h2, r1⟩ := RelH.tup (.inl hr) I.wok
    exact ⟨a, vs, rfl, SqT.of h1, by rw [r1.length]; exact g.1, h.s W0 H0 W H σ ρ vs ds P Q I r1 g.2 k⟩
  · exact g.elim⟩
section
variable {e : Expr} {te' : TE} {te : DTE} {pos pos' : Pos}
def dAsg (te : DTE) (g : DTG) : DTS := fun nx _ _ _ ρ => te ρ fun r ρ1 => g r ρ1 nx
theorem ss_asg {g' : TG} {g : DTG} (he : SE mg te' te) (hg : SG mg g' g) : SS mg (tAsg te' g') (dAsg te g) := fun W0 H0 W H σ ρ P E I h k =>
  he W0 H0 W H σ ρ _ _ I h fun W1 H1 v r ρ1 I1 u1 R1 h1 => hg W0 H0 H W1 H1 σ ρ1 v r _ _ I1 R1 (fun a q => I.ext.dom a q) h1 fun W2 H2 σ2 ρ2 l2 I2 g2 => k.nx W2 H2 σ2 ρ2 (u1.le.trans l2) I2 g2
theorem ds_asg {tg : Expr} {g' : TG} {g : DTG} (he : DE X e te' te) (hg : DG X tg g' g) (hs : swapsWithSole [tg] e pos.line X.env = pure false := by rfl) (hw : swappedStores [tg] e X.env = pure none := by rfl) (h1 : (assignEach [tg] X.env).map (·.2) = [assign tg X.env] := by rfl) : DS X (.Assign [tg] e pos) (tAsg te' g') (dAsg te g) := ⟨ps_asg he.p hg.p hs hw h1, ss_asg he.s hg.s⟩
theorem ds_set {i : Nat} {x : Str} (hN : X.N.Nodup) (hi : X.N[i]? = some x) (hx : Loc X.env.scope x) (he : DE X e te' te) (hs : swapsWith e (some (.Name x pos')) pos.line X.env = pure false := by rfl) (hf : X.fn x = true ∨ X.env.scope.names.lookup x = some .local := by first | exact .inl rfl | exact .inr rfl | assumption) :
    DS X (.Assign [.Name x pos'] e pos) (tAsg te' (gName i)) (dAsg te (gNm i)) := ⟨ps_set hN hi hx he.p hs hf, ss_asg he.s (sg_name i)⟩
/-- an own list's name gives its list away -/
def R.soft : R → R
  | .al _ xs => .im (.lst xs)
  | r => r
theorem RR.stp {W0 W1 W2 : Wd} {H0 Hs H1 H2 : Hp} {σ : L2.St} {ρ1 ρ2 : Rh} {r : R} (h : RR mg Hs W1 H1 σ ρ1 v r.soft) (u : Stp σ ρ1 W1 H1 ρ2 W2 H2) : RR mg Hs W2 H2 σ ρ2 v r.soft := by
  cases r with
  | im d => exact Rel.mono u.le h
  | al i xs => exact Rel.mono u.le h
  | fr xs =>
    obtain ⟨a, vs, g1, g2, g3, g4, g5, g6, g7⟩ := h
    refine ⟨a, vs, g1, u.keep a _ g2 g4, ?_, u.notP g2 g4, g5, g6.mono u.le, fun i ys q => g7 i ys (u.lat i ys q)⟩
    cases q : W2.F a with
    | none => rfl
    | some o =>
      rcases u.new a o q g3 with e | ⟨i, ys, e1, e2⟩
      · rw [e] at g2; cases g2
      · exact absurd e2 (g7 i ys e1)
/-- a value with its list given away if it has a name -/
theorem Stp.soft {W0 W W1 : Wd} {H0 H H1 : Hp} {σ : L2.St} {ρ ρ1 : Rh} {r : R} (u : Stp σ ρ W H ρ1 W1 H1) (I : EnvOk mg W0 H0 W H σ ρ) (I1 : EnvOk mg W0 H0 W1 H1 σ ρ1) (h : RR mg H W1 H1 σ ρ1 v r) : ∃ W2, EnvOk mg W0 H0 W2 H1 σ (frz r ρ1) ∧ Stp σ ρ W H (frz r ρ1) W2 H1 ∧ RR mg H W2 H1 σ (frz r ρ1) v r.soft := by
  cases r with
  | im d => exact ⟨W1, I1, u, h⟩
  | fr xs => exact ⟨W1, I1, u, h⟩
  | al i xs =>
    obtain ⟨W2, I2, u2, hr⟩ := u.settle I I1 h
    exact ⟨W2, I2, u2, hr⟩
def dPar (i j : Nat) (ta tb : DTE) : DTS := fun nx _ _ _ ρ => ta ρ fun r ρ1 => tb (frz r ρ1) fun s ρ2 => nx (store j s.soft (store i r.soft (frz s ρ2)))
theorem EnvOk.put_soft {W0 W : Wd} {H0 Hs H : Hp} {σ : L2.St} {ρ : Rh} {r : R} (I : EnvOk mg W0 H0 W H σ ρ) (i : Nat) (h : RR mg Hs W H σ ρ v r.soft) (hd : ∀ a, Hs a = none → H0 a = none) : EnvOk mg W0 H0 W H (σ.set i (some v)) (store i r.soft ρ) := by
  cases r with
  | im d => exact I.put_im i h
  | al j xs => exact I.put_im i h
  | fr xs => exact I.put_fr i h hd
theorem fr_apart {W1 W2 : Wd} {H Hs H1 : Hp} {σ : L2.St} {ρ1 ρ2 : Rh} {r s : R} {w : V} (h : RR mg H W1 Hs σ ρ1 v r.soft) (g : RR mg Hs W2 H1 σ ρ2 w s.soft) : ∀ xs, r.soft = .fr xs → ∀ zs, s.soft = .fr zs → ∀ a, v = .ref a → w ≠ .ref a := fun xs e zs e2 a ev ew => by
  rw [e] at h
  rw [e2] at g
  obtain ⟨b, vs, h1, h2, _⟩ := h
  obtain ⟨c, us, g1, g2, g3, g4, g5, _⟩ := g
  rw [ev] at h1
  rw [ew] at g1
  cases h1
  cases g1
  rw [g5] at h2; cases h2
theorem put2 {W0 W1 W2 : Wd} {H0 Hs H H1 : Hp} {σ : L2.St} {ρ ρ1 : Rh} {r s : R} {w : V} (i : Nat) (h : RR mg H W2 H1 σ ρ1 v r.soft) (g : RR mg Hs W2 H1 σ ρ1 w s.soft) (ap : ∀ xs, r.soft = .fr xs → ∀ zs, s.soft = .fr zs → ∀ a, v = .ref a → w ≠ .ref a) : RR mg Hs W2 H1 (σ.set i (some v)) (store i r.soft ρ1) w s.soft := by
  cases s with
  | im d =>
    cases r <;> exact g
  | al j xs =>
    cases r <;> exact g
  | fr zs =>
    obtain ⟨a, vs, g1, g2, g3, g4, g5, g6, g7⟩ := g
    refine ⟨a, vs, g1, g2, g3, g4, g5, g6, fun l ys q z => ?_⟩
    have key : ∀ d : Sl, store i r.soft ρ1 = ρ1.set i (some d) → (∀ xs, d = .ow xs → r.soft = .fr xs) → False := fun d e hd => by
      rw [e] at q
      rcases get_set q with ⟨e3, e2, hl⟩ | ⟨e3, q⟩
      · cases e2
        subst e3
        by_cases hh : i < σ.length
        · rw [List.getElem?_set_self hh] at z
          cases z
          exact ap _ (hd _ rfl) zs rfl a rfl g1
        · rw [List.getElem?_eq_none (by rw [List.length_set]; omega)] at z
          cases z
      · rw [List.getElem?_set_ne e3] at z; exact g7 l ys q z
    cases r with
    | im d => exact key (.im d) rfl fun _ e => nomatch e
    | al j xs => exact key (.im (.lst xs)) rfl fun _ e => nomatch e
    | fr xs => exact key (.ow xs) rfl fun _ e => by cases e; rfl
theorem ss_par {i j : Nat} {ta' tb' : TE} {ta tb : DTE} (ha : SE mg ta' ta) (hb : SE mg tb' tb) : SS mg (tPar i j (tCons ta' (tCons tb' tNil))) (dPar i j ta tb) := fun W0 H0 W H σ ρ P E I h k =>
  ha W0 H0 W H σ ρ _ _ I h fun W1 H1 v r ρ1 I1 u1 R1 h1 => by
    obtain ⟨W2, I2, u2, r2⟩ := u1.soft I I1 R1
    refine hb W0 H0 W2 H1 σ _ _ _ I2 h1 fun W3 H3 w s ρ3 I3 u3 R3 h3 => ?_
    refine ⟨v, w, rfl, ?_⟩
    obtain ⟨W4, I4, u4, r4⟩ := u3.soft I2 I3 R3
    have r5 := r2.stp (W0 := W0) (H0 := H0) u4
    have I5 := I4.put_soft i r5 (fun a q => I.ext.dom a q)
    have r6 := put2 (W0 := W0) (W1 := W1) (H0 := H0) (ρ := ρ) i r5 r4 (fr_apart r2 r4)
    exact k.nx W4 H3 _ _ (u2.le.trans u4.le) (I5.put_soft j r6 fun a q => I2.ext.dom a q) h3
theorem ds_par {i j : Nat} {x y : Str} {a b : Expr} {ta' tb' : TE} {ta tb : DTE} {px py pt pos : Pos} {kt k2 pt2} (hc : X.calm = true) (hN : X.N.Nodup) (hi : X.N[i]? = some x) (hj : X.N[j]? = some y) (hij : i ≠ j)
    (hx : X.env.scope.names.lookup x = some .local) (hy : X.env.scope.names.lookup y = some .local) (ha : DE X a ta' ta) (hb : DE X b tb' tb)
    (hw : swappedStores [.Tuple [.Name x px, .Name y py] kt pt] (.Tuple [a, b] k2 pt2) X.env = pure (some [x, y]))
    (hs : swapsWithSole [.Tuple [.Name x px, .Name y py] kt pt] (.Tuple [a, b] k2 pt2) pos.line X.env = pure false := by rfl)
    (h1 : starEach [a, b] X.env = (false, eval a X.env) :: starEach [b] X.env := by rfl) (h2 : starEach [b] X.env = (false, eval b X.env) :: starEach [] X.env := by rfl) :
    DS X (.Assign [.Tuple [.Name x px, .Name y py] kt pt] (.Tuple [a, b] k2 pt2) pos) (tPar i j (tCons ta' (tCons tb' tNil))) (dPar i j ta tb) :=
  ⟨ps_par hc hN hi hj hij hx hy (pa_cons ha.p (pa_cons hb.p pa_nil h2) h1) hw hs, ss_par ha.s hb.s⟩
def dPar3 (i j l : Nat) (ta tb tc : DTE) : DTS := fun nx _ _ _ ρ => ta ρ fun r ρ1 => tb (frz r ρ1) fun s ρ2 => tc (frz s ρ2) fun t ρ3 => nx (store l t.soft (store j s.soft (store i r.soft (frz t ρ3))))
theorem ss_par3 {i j l : Nat} {ta' tb' tc' : TE} {ta tb tc : DTE} (ha : SE mg ta' ta) (hb : SE mg tb' tb) (hc : SE mg tc' tc) : SS mg (tPar3 i j l (tCons ta' (tCons tb' (tCons tc' tNil)))) (dPar3 i j l ta tb tc) := fun W0 H0 W H σ ρ P E I h k =>
  ha W0 H0 W H σ ρ _ _ I h fun W1 H1 v r ρ1 I1 u1 R1 h1 => by
    obtain ⟨W2, I2, u2, r2⟩ := u1.soft I I1 R1
    refine hb W0 H0 W2 H1 σ _ _ _ I2 h1 fun W3 H3 w s ρ3 I3 u3 R3 h3 => ?_
    obtain ⟨W4, I4, u4, r4⟩ := u3.soft I2 I3 R3
    refine hc W0 H0 W4 H3 σ _ _ _ I4 h3 fun W5 H5 z t ρ5 I5 u5 R5 h5 => ?_
    refine ⟨v, w, z, rfl, ?_⟩
    obtain ⟨W6, I6, u6, r6⟩ := u5.soft I4 I5 R5
    have p1 := (r2.stp (W0 := W0) (H0 := H0) u4).stp (W0 := W0) (H0 := H0) u6
    have p2 := r4.stp (W0 := W0) (H0 := H0) u6
    have J1 := I6.put_soft i p1 (fun a q => I.ext.dom a q)
    have q2 := put2 (W0 := W0) (W1 := W1) (H0 := H0) (ρ := ρ) i p1 p2 (fr_apart r2 r4)
    have q3 := put2 (W0 := W0) (W1 := W1) (H0 := H0) (ρ := ρ) i p1 r6 (fr_apart (r2.stp (W0 := W0) (H0 := H0) u4) r6)
    have J2 := J1.put_soft j q2 (fun a q => I2.ext.dom a q)
    have q4 := put2 (W0 := W0) (W1 := W1) (H0 := H0) (ρ := ρ) j q2 q3 (fr_apart r4 r6)
    exact k.nx W6 H5 _ _ ((u2.le.trans u4.le).trans u6.le) (J2.put_soft l q4 fun a q => I4.ext.dom a q) h5
theorem ds_par3 {i j l : Nat} {x y z : Str} {a b c : Expr} {ta' tb' tc' : TE} {ta tb tc : DTE} {px py pz pt pos : Pos} {kt k2 pt2} (hc : X.calm = true) (hN : X.N.Nodup) (hi : X.N[i]? = some x) (hj : X.N[j]? = some y) (hl : X.N[l]? = some z) (hij : i ≠ j) (hil : i ≠ l) (hjl : j ≠ l)
    (hx : X.env.scope.names.lookup x = some .local) (hy : X.env.scope.names.lookup y = some .local) (hz : X.env.scope.names.lookup z = some .local) (ha : DE X a ta' ta) (hb : DE X b tb' tb) (hcc : DE X c tc' tc)
    (hw : swappedStores [.Tuple [.Name x px, .Name y py, .Name z pz] kt pt] (.Tuple [a, b, c] k2 pt2) X.env = pure (some [x, y, z]))
    (hs : swapsWithSole [.Tuple [.Name x px, .Name y py, .Name z pz] kt pt] (.Tuple [a, b, c] k2 pt2) pos.line X.env = pure false := by rfl)
    (h1 : starEach [a, b, c] X.env = (false, eval a X.env) :: starEach [b, c] X.env := by rfl) (h2 : starEach [b, c] X.env = (false, eval b X.env) :: starEach [c] X.env := by rfl) (h3 : starEach [c] X.env = (false, eval c X.env) :: starEach [] X.env := by rfl) :
    DS X (.Assign [.Tuple [.Name x px, .Name y py, .Name z pz] kt pt] (.Tuple [a, b, c] k2 pt2) pos) (tPar3 i j l (tCons ta' (tCons tb' (tCons tc' tNil)))) (dPar3 i j l ta tb tc) :=
  ⟨ps_par3 hc hN hi hj hl hij hil hjl hx hy hz (pa_cons ha.p (pa_cons hb.p (pa_cons hcc.p pa_nil h3) h2) h1) hw hs, ss_par3 ha.s hb.s hcc.s⟩
end
end
end DL
/-! Deep readings: loops over things, comprehensions, items, slices, own lists changed, calls of defs, a def as a whole. -/
namespace DL
open PySem PySem.Spec PyProof.Rows L2
section
variable {X : Cx} {mg : Gm} {W W' : Wd} {H H' : Hp} {v x y : V}

/-! ### for -/
/-- a for: its invariant by the turn -/
def dLoop (g : DTG) (tb : DTS) (nx : Rh → Prop) (rt : R → Prop) (ds : List D) (ρ : Rh) : Prop := ∃ I : Nat → Rh → Prop, I 0 ρ ∧
  (∀ i d ρ, ds[i]? = some d → I i ρ → g (.im d) ρ fun ρ1 => tb (I (i + 1)) rt nx (I (i + 1)) ρ1) ∧ ∀ ρ, I ds.length ρ → nx ρ
def dFor (ti : DTI) (g : DTG) (tb : DTS) : DTS := fun nx rt _ _ ρ => ti ρ fun ds ρ1 => dLoop g tb nx rt ds ρ1
theorem ss_for {wi : TI} {ti : DTI} {g' : TG} {g : DTG} {tb' : TS} {tb : DTS} (hi : SI mg wi ti) (hg : SG mg g' g) (hb : SS mg tb' tb) : SS mg (tFor wi g' tb') (dFor ti g tb) := fun W0 H0 W H σ ρ P E I0 h k =>
  hi W0 H0 W H σ ρ _ _ I0 h fun W1 H1 J ds ρ1 I1 u1 dw h1 => by
    obtain ⟨I, i0, is, ie⟩ := h1
    refine ⟨fun i m σ H => m = ds.length - i ∧ i ≤ ds.length ∧ ∃ W2 ρ2, Wle W1 W2 ∧ EnvOk mg W0 H0 W2 H σ ρ2 ∧ I i ρ2, ⟨ds.length, by simp, Nat.zero_le _, W1, ρ1, Wle.refl _, I1, i0⟩, ?_⟩
    rintro i m σ2 H2 ⟨rfl, hi, W2, ρ2, l2, I2, q2⟩
    obtain ⟨go, stop⟩ := dw W2 H2 I2.wok l2
    by_cases hlt : i < ds.length
    · have hd : ds[i]? = some ds[i] := List.getElem?_eq_getElem hlt
      refine .inr ⟨(go i _ hd).1, fun σ' H' => ∃ W2 ρ2, Wle W1 W2 ∧ EnvOk mg W0 H0 W2 H' σ' ρ2 ∧ I (i + 1) ρ2, fun σ' H' p => ⟨ds.length - (i + 1), by omega, rfl, hlt, p⟩, fun x H' y => ?_⟩
      obtain ⟨W3, w3, e3, r3⟩ := (go i _ hd).2 x H' y
      have I3 := I2.step e3 w3
      refine hg W0 H0 H0 W3 H' σ2 ρ2 x (.im ds[i]) _ _ I3 r3 (fun _ q => q) (is i _ ρ2 hd q2) fun W4 H4 σ4 ρ4 l4 I4 q4 => ?_
      have l : Wle W1 W4 := (l2.trans e3.le).trans l4
      refine hb W0 H0 W4 H4 σ4 ρ4 ⟨I (i + 1), P.rt, P.nx, I (i + 1)⟩ _ I4 q4 ⟨fun W' H' σ' ρ' l' I' q => ?_, fun W' H' σ' ρ' l' I' q => k.nx W' H' σ' ρ' ((u1.le.trans l).trans l') I' q, fun W' H' σ' ρ' l' I' q => ?_, k.rt⟩
      · exact ⟨W', ρ', l.trans l', I', q⟩
      · exact ⟨W', ρ', l.trans l', I', q⟩
    · have e : i = ds.length := by omega
      subst e
      exact .inl ⟨stop, k.nx W2 H2 σ2 ρ2 (u1.le.trans l2) I2 (ie ρ2 q2)⟩
theorem ds_for {iter tg : Expr} {body : List Stmt} {pos : Pos} {wi : TI} {ti : DTI} {g' : TG} {g : DTG} {tb' : TS} {tb : DTS} (hp : PassesOwn (model X.prog X.w) X.A X.env X.xe) (hc : X.calm = true) (hi : DI X tg iter wi ti) (hg : DG X tg g' g) (hb : DSs X body tb' tb) (hs : ∀ x, foldedSetIterable iter X.env x = pure x := by intro _; rfl) :
    DS X (.For tg iter body [] pos) (tFor wi g' tb') (dFor ti g tb) := ⟨ps_for hp hc hi.p hg.p hb.p hs, ss_for hi.s hg.s hb.s⟩

/-! ### what is walked -/
theorem dw_list {K : PySem.W.Frag} {a : Addr} {vs : List V} {ds : List D} (h : W.F a = some (.lst vs)) (r : RelL mg W vs ds) : DWalk mg W (Itl K a) ds := fun W1 H1 w l => by
  have q : SqL K H1 a vs := SqL.of (w.sub _ _ (l.mono _ _ h))
  refine ⟨fun i d e => ?_, vs, q, by rw [r.length]; exact Nat.le_refl _⟩
  obtain ⟨v, hv, hr⟩ := r.get e
  refine ⟨⟨vs, v, q, hv⟩, fun x H2 y => ?_⟩
  obtain ⟨rfl, y⟩ := y
  have e2 := (y vs q).symm.trans hv
  cases e2
  exact ⟨W1, w, Ext.refl _ _, hr.mono l⟩
theorem dw_tup {K : PySem.W.Frag} {a : Addr} {vs : List V} {ds : List D} (h : W.F a = some (.tup vs)) (r : RelL mg W vs ds) : DWalk mg W (Itt K a) ds := fun W1 H1 w l => by
  have q : SqT K H1 a vs := SqT.of (w.sub _ _ (l.mono _ _ h))
  refine ⟨fun i d e => ?_, vs, q, by rw [r.length]; exact Nat.le_refl _⟩
  obtain ⟨v, hv, hr⟩ := r.get e
  refine ⟨⟨vs, v, q, hv⟩, fun x H2 y => ?_⟩
  obtain ⟨rfl, y⟩ := y
  have e2 := (y vs q).symm.trans hv
  cases e2
  exact ⟨W1, w, Ext.refl _ _, hr.mono l⟩
/-- a list or a tuple -/
def iSeq (K : PySem.W.Frag) (tl : TE) : TI := fun σ H R => tl σ H fun x H1 => (∃ a, x = .ref a ∧ (∃ xs, SqL K H1 a xs) ∧ R (Itl K a) H1) ∨ ∃ a, x = .ref a ∧ (∃ xs, SqT K H1 a xs) ∧ R (Itt K a) H1
theorem pi_seq {tg l : Expr} {tl : TE} (hl : PE X l tl) : PI X tg l (iSeq X.K tl) := by
  refine ⟨fun pins s σ H R I h => ?_⟩
  refine thn (hl.run pins s σ H _ I h) fun v s1 ⟨x, H1, I1, r1, q1⟩ => ?_
  rcases q1 with ⟨a, e, ⟨xs, hq⟩, q⟩ | ⟨a, e, ⟨xs, hq⟩, q⟩
  · subst e
    cases r1
    obtain ⟨its, rv, p, hz⟩ := I1.list hq
    refine wpAny_pyIter_list p.isList ?_
    refine ⟨s1.heap.objs.size, [s1.heap.objs.size], _, _, H1, rfl, I1.kept (t' := s1.toks) fun b o e => Heap.get?_push_of_some _ e, turn_list a _, ⟨_, Heap.get?_push_size _ rfl, rfl, rfl⟩, fun b hb => ?_, q⟩
    have e : b = s1.heap.objs.size := by simpa using hb
    subst e
    exact I1.fpOk (Nat.le_refl _) (I1.hok.fresh (Nat.le_refl _))
  · subst e
    cases r1
    obtain ⟨its, rv, p, hz⟩ := I1.tuple hq
    refine wpAny_pyIter_tuple (show s1.heap.IsTuple a its.toArray from p) ?_
    refine ⟨s1.heap.objs.size, [s1.heap.objs.size], _, _, H1, rfl, I1.kept (t' := s1.toks) fun b o e => Heap.get?_push_of_some _ e, turn_tuple a _, ⟨_, Heap.get?_push_size _ rfl, rfl, rfl⟩, fun b hb => ?_, q⟩
    have e : b = s1.heap.objs.size := by simpa using hb
    subst e
    exact I1.fpOk (Nat.le_refl _) (I1.hok.fresh (Nat.le_refl _))
def dSeqI (te : DTE) : DTI := fun ρ P => te ρ fun r ρ1 => match r.d with
  | .lst xs => P xs (frz r ρ1)
  | .tup xs => P xs (frz r ρ1)
  | _ => False
theorem si_seq {K : PySem.W.Frag} {te' : TE} {te : DTE} (h : SE mg te' te) : SI mg (iSeq K te') (dSeqI te) := fun W0 H0 W H σ ρ P Q I q k =>
  h W0 H0 W H σ ρ _ _ I q fun W1 H1 v r ρ1 I1 u1 R1 h1 => by
    obtain ⟨W2, I2, u2, r2⟩ := u1.settle I I1 R1
    split at h1
    · rename_i xs e
      rw [e] at r2
      cases r2 with
      | lst a b => exact .inl ⟨_, rfl, ⟨_, SqL.of (I2.wok.sub _ _ a)⟩, k W2 H1 _ xs _ I2 u2 (dw_list a b) h1⟩
    · rename_i xs e
      rw [e] at r2
      cases r2 with
      | tup a b => exact .inr ⟨_, rfl, ⟨_, SqT.of (I2.wok.sub _ _ a)⟩, k W2 H1 _ xs _ I2 u2 (dw_tup a b) h1⟩
    · exact h1.elim
theorem di_seq {tg e : Expr} {te' : TE} {te : DTE} (he : DE X e te' te) {K : PySem.W.Frag} (hK : X.K = K := by rfl) : DI X tg e (iSeq K te') (dSeqI te) := by subst hK; exact ⟨pi_seq he.p, si_seq he.s⟩
def rngD (lo : Int) (n : Nat) : List D := (List.range n).map fun (i : Nat) => D.int (lo + (i : Int))
theorem rngD_get {lo : Int} {n i : Nat} {d : D} (h : (rngD lo n)[i]? = some d) : i < n ∧ d = .int (lo + (i : Int)) := by
  unfold rngD at h
  rw [List.getElem?_map] at h
  cases e : (List.range n)[i]? with
  | none => rw [e] at h; cases h
  | some j =>
    rw [e] at h
    obtain ⟨h1, h2⟩ := List.getElem?_eq_some_iff.mp e
    rw [List.getElem_range] at h2
    subst h2
    rw [List.length_range] at h1
    cases h
    exact ⟨h1, rfl⟩
theorem rngD_len (lo : Int) (n : Nat) : (rngD lo n).length = n := by unfold rngD; rw [List.length_map, List.length_range]
theorem dw_range {lo : Int} {n : Nat} : DWalk mg W (Itr lo n) (rngD lo n) := fun W1 H1 w l => by
  refine ⟨fun i d e => ?_, by rw [rngD_len]; exact Nat.le_refl _⟩
  obtain ⟨h1, rfl⟩ := rngD_get e
  refine ⟨h1, fun x H2 y => ?_⟩
  obtain ⟨rfl, rfl⟩ := y
  exact ⟨W1, w, Ext.refl _ _, .int _⟩
def okR (i : Int) : Prop := -(2 ^ 62) ≤ i ∧ i < 2 ^ 62
def dRng1 (ta : DTA) : DTI := fun ρ P => ta ρ fun ds ρ1 => match ds with
  | [.int j] => okR j ∧ P (rngD 0 j.toNat) ρ1
  | _ => False
def dRng2 (ta : DTA) : DTI := fun ρ P => ta ρ fun ds ρ1 => match ds with
  | [.int i, .int j] => okR i ∧ okR j ∧ P (rngD i (j - i).toNat) ρ1
  | _ => False
theorem si_rng1 {ta' : TA} {ta : DTA} (h : SAh mg ta' ta) : SI mg (iRng1 ta') (dRng1 ta) := fun W0 H0 W H σ ρ P Q I q k =>
  h W0 H0 W H σ ρ _ _ I q fun W1 H1 vs ds ρ1 I1 u1 R1 h1 => by
    split at h1
    · obtain ⟨v, rfl, a⟩ := R1.one
      exact ⟨_, by rw [a.int], h1.1.1, h1.1.2, k W1 H1 _ _ ρ1 I1 u1 dw_range h1.2⟩
    · exact h1.elim
theorem si_rng2 {ta' : TA} {ta : DTA} (h : SAh mg ta' ta) : SI mg (iRng2 ta') (dRng2 ta) := fun W0 H0 W H σ ρ P Q I q k =>
  h W0 H0 W H σ ρ _ _ I q fun W1 H1 vs ds ρ1 I1 u1 R1 h1 => by
    split at h1
    · obtain ⟨v, u, rfl, a, b⟩ := R1.two
      exact ⟨_, _, by rw [a.int, b.int], ⟨h1.1.1, h1.1.2, h1.2.1.1, h1.2.1.2⟩, k W1 H1 _ _ ρ1 I1 u1 dw_range h1.2.2⟩
    · exact h1.elim
theorem di_rng1 {tg a : Expr} {ta' : TA} {ta : DTA} {p pos : Pos} (hg : Gl X "range") (hm : X.mg "range" = none) (ha : DAh X [a] ta' ta) (hs : starEach [a] X.env = [(false, eval a X.env)] := by rfl) : DI X tg (.Call (.Name "range" p) [a] [] pos) (iRng1 ta') (dRng1 ta) := ⟨pi_range1 hg hm ha.p hs, si_rng1 ha.s⟩
theorem di_rng2 {tg a b : Expr} {ta' : TA} {ta : DTA} {p pos : Pos} (hg : Gl X "range") (hm : X.mg "range" = none) (ha : DAh X [a, b] ta' ta) (hs : starEach [a, b] X.env = [(false, eval a X.env), (false, eval b X.env)] := by rfl) (hs2 : starEach [b] X.env = [(false, eval b X.env)] := by rfl) : DI X tg (.Call (.Name "range" p) [a, b] [] pos) (iRng2 ta') (dRng2 ta) := ⟨pi_range2 hg hm ha.p hs hs2, si_rng2 ha.s⟩

/-! ### list comprehensions -/
def wipeR (ρ : Rh) : List Nat → Rh
  | [] => ρ
  | v :: vs => (wipeR ρ vs).set v none
def noOwn (ρ : Rh) (vs : List Nat) : Bool := vs.all fun i => match ρ[i]? with
  | some (some (.ow _)) => false
  | _ => true
theorem wipeR_len (ρ : Rh) : ∀ vs : List Nat, (wipeR ρ vs).length = ρ.length
  | [] => rfl
  | v :: vs => by unfold wipeR; rw [List.length_set, wipeR_len ρ vs]
theorem wipeR_some {ρ : Rh} {i : Nat} {s : Sl} : ∀ {vs : List Nat}, (wipeR ρ vs)[i]? = some (some s) → ρ[i]? = some (some s) ∧ i ∉ vs
  | [], h => ⟨h, by simp⟩
  | v :: vs, h => by
    unfold wipeR at h
    rcases get_set h with ⟨_, e, _⟩ | ⟨e, h⟩
    · cases e
    · obtain ⟨h1, h2⟩ := wipeR_some h
      exact ⟨h1, by simp only [List.mem_cons, not_or]; exact ⟨fun z => e z.symm, h2⟩⟩
theorem wipeR_not {ρ : Rh} {i : Nat} : ∀ {vs : List Nat}, i ∉ vs → (wipeR ρ vs)[i]? = ρ[i]?
  | [], _ => rfl
  | v :: vs, h => by
    simp only [List.mem_cons, not_or] at h
    unfold wipeR
    rw [List.getElem?_set_ne (fun e => h.1 e.symm)]
    exact wipeR_not h.2
theorem wipe_not {σ : L2.St} {i : Nat} : ∀ {vs : List Nat}, i ∉ vs → (wipe σ vs)[i]? = σ[i]?
  | [], _ => rfl
  | v :: vs, h => by
    simp only [List.mem_cons, not_or] at h
    unfold wipe
    rw [List.getElem?_set_ne (fun e => h.1 e.symm)]
    exact wipe_not h.2
theorem EnvOk.wiped {W0 : Wd} {H0 : Hp} {σ : L2.St} {ρ : Rh} (I : EnvOk mg W0 H0 W H σ ρ) (vs : List Nat) : EnvOk mg W0 H0 W H (wipe σ vs) (wipeR ρ vs) where
  wok := I.wok
  ext := I.ext
  len := by rw [wipe_length, wipeR_len]; exact I.len
  im := fun i d q => by
    obtain ⟨h1, h2⟩ := wipeR_some q
    rw [wipe_not h2]
    exact I.im i d h1
  ow := fun i xs q => by
    obtain ⟨h1, h2⟩ := wipeR_some q
    rw [wipe_not h2]
    exact I.ow i xs h1
  sep := fun i j xs ys a hi hj h1 h2 => by
    obtain ⟨g1, g2⟩ := wipeR_some hi
    obtain ⟨k1, k2⟩ := wipeR_some hj
    rw [wipe_not g2] at h1
    rw [wipe_not k2] at h2
    exact I.sep i j xs ys a g1 k1 h1 h2
/-- back from a block: the slots as they were, the world grown -/
theorem EnvOk.unwiped {W0 : Wd} {H0 : Hp} {σ : L2.St} {ρ : Rh} {vs : List Nat} (I0 : EnvOk mg W0 H0 W H σ ρ) (n : noOwn ρ vs = true) (I : EnvOk mg W0 H0 W' H' (wipe σ vs) (wipeR ρ vs)) (l : Wle W W') : EnvOk mg W0 H0 W' H' σ ρ where
  wok := I.wok
  ext := I.ext
  len := I0.len
  im := fun i d q => let ⟨v, h1, h2⟩ := I0.im i d q; ⟨v, h1, h2.mono l⟩
  ow := fun i xs q => by
    have hn : i ∉ vs := fun hm => by
      have := List.all_eq_true.mp n i hm
      rw [q] at this
      cases this
    obtain ⟨a, us, h1, h2⟩ := I.ow i xs (by rw [wipeR_not hn]; exact q)
    rw [wipe_not hn] at h1
    exact ⟨a, us, h1, h2⟩
  sep := I0.sep
/-- what the turns of a comprehension give -/
def dLcL (g : DTG) (tt : DTT) (te : DTE) (ρw : Rh) : List D → List D → (List D → Prop) → Prop
  | [], acc, P => P acc
  | d :: ds, acc, P => g (.im d) ρw fun ρ2 => tt ρ2 fun b ρ3 => sw b (te ρ3 fun r ρ4 => frz r ρ4 = ρ2 ∧ acc.length < sizeLine ∧ dLcL g tt te ρw ds (acc ++ [r.d]) P) (ρ3 = ρ2 ∧ dLcL g tt te ρw ds acc P)
def dLc (ti : DTI) (g : DTG) (tt : DTT) (te : DTE) (vs : List Nat) : DTE := fun ρ P => ti ρ fun ds ρ1 => noOwn ρ1 vs = true ∧ dLcL g tt te (wipeR ρ1 vs) ds [] fun zs => P (.fr zs) ρ1

theorem wipe_get {σ : L2.St} {i : Nat} : ∀ {vs : List Nat}, (wipe σ vs)[i]? = if i ∈ vs then σ[i]?.map (fun _ => none) else σ[i]?
  | [] => by simp [wipe]
  | v :: vs => by
    unfold wipe
    by_cases e : v = i
    · subst e
      rw [if_pos (List.mem_cons_self ..)]
      by_cases hl : v < (wipe σ vs).length
      · rw [List.getElem?_set_self hl]
        rw [wipe_length] at hl
        rw [List.getElem?_eq_getElem hl]; rfl
      · rw [List.getElem?_eq_none (by rw [List.length_set]; omega)]
        rw [wipe_length] at hl
        rw [List.getElem?_eq_none (by omega)]; rfl
    · rw [List.getElem?_set_ne e, wipe_get (vs := vs)]
      by_cases m : i ∈ vs
      · rw [if_pos m, if_pos (List.mem_cons_of_mem _ m)]
      · rw [if_neg m, if_neg]
        simp only [List.mem_cons, not_or]
        exact ⟨fun z => e z.symm, m⟩
theorem wipeR_get {σ : Rh} {i : Nat} : ∀ {vs : List Nat}, (wipeR σ vs)[i]? = if i ∈ vs then σ[i]?.map (fun _ => none) else σ[i]?
  | [] => by simp [wipeR]
  | v :: vs => by
    unfold wipeR
    by_cases e : v = i
    · subst e
      rw [if_pos (List.mem_cons_self ..)]
      by_cases hl : v < (wipeR σ vs).length
      · rw [List.getElem?_set_self hl]
        rw [wipeR_len] at hl
        rw [List.getElem?_eq_getElem hl]; rfl
      · rw [List.getElem?_eq_none (by rw [List.length_set]; omega)]
        rw [wipeR_len] at hl
        rw [List.getElem?_eq_none (by omega)]; rfl
    · rw [List.getElem?_set_ne e, wipeR_get (vs := vs)]
      by_cases m : i ∈ vs
      · rw [if_pos m, if_pos (List.mem_cons_of_mem _ m)]
      · rw [if_neg m, if_neg]
        simp only [List.mem_cons, not_or]
        exact ⟨fun z => e z.symm, m⟩
theorem wipe_set {σ : L2.St} {j : Nat} {x : Option V} {vs : List Nat} (h : j ∈ vs) : wipe (σ.set j x) vs = wipe σ vs := by
  apply List.ext_getElem?
  intro i
  rw [wipe_get, wipe_get]
  by_cases m : i ∈ vs
  · rw [if_pos m, if_pos m]
    by_cases e : j = i
    · subst e
      by_cases hl : j < σ.length
      · rw [List.getElem?_set_self hl, List.getElem?_eq_getElem hl]; rfl
      · rw [List.getElem?_eq_none (by rw [List.length_set]; omega), List.getElem?_eq_none (by omega)]
    · rw [List.getElem?_set_ne e]
  · rw [if_neg m, if_neg m, List.getElem?_set_ne (fun e => m (by rw [← e]; exact h))]
theorem wipeR_set {σ : Rh} {j : Nat} {x : Option Sl} {vs : List Nat} (h : j ∈ vs) : wipeR (σ.set j x) vs = wipeR σ vs := by
  apply List.ext_getElem?
  intro i
  rw [wipeR_get, wipeR_get]
  by_cases m : i ∈ vs
  · rw [if_pos m, if_pos m]
    by_cases e : j = i
    · subst e
      by_cases hl : j < σ.length
      · rw [List.getElem?_set_self hl, List.getElem?_eq_getElem hl]; rfl
      · rw [List.getElem?_eq_none (by rw [List.length_set]; omega), List.getElem?_eq_none (by omega)]
    · rw [List.getElem?_set_ne e]
  · rw [if_neg m, if_neg m, List.getElem?_set_ne (fun e => m (by rw [← e]; exact h))]
theorem wipe_wipe {σ : L2.St} {vs : List Nat} : wipe (wipe σ vs) vs = wipe σ vs := by
  apply List.ext_getElem?
  intro i
  rw [wipe_get, wipe_get]
  by_cases m : i ∈ vs
  · rw [if_pos m, if_pos m]; cases σ[i]? <;> rfl
  · rw [if_neg m, if_neg m]
theorem wipeR_wipeR {σ : Rh} {vs : List Nat} : wipeR (wipeR σ vs) vs = wipeR σ vs := by
  apply List.ext_getElem?
  intro i
  rw [wipeR_get, wipeR_get]
  by_cases m : i ∈ vs
  · rw [if_pos m, if_pos m]; cases σ[i]? <;> rfl
  · rw [if_neg m, if_neg m]

theorem noOwn_wiped {ρ : Rh} {vs : List Nat} : noOwn (wipeR ρ vs) vs = true := List.all_eq_true.mpr fun i hi => by
  rw [wipeR_get, if_pos hi]
  cases ρ[i]? <;> rfl
theorem noOwn_set {ρ : Rh} {vs : List Nat} {i : Nat} {d : D} (h : noOwn ρ vs = true) : noOwn (ρ.set i (some (.im d))) vs = true := List.all_eq_true.mpr fun j hj => by
  have q := List.all_eq_true.mp h j hj
  by_cases e : i = j
  · subst e
    by_cases hl : i < ρ.length
    · rw [List.getElem?_set_self hl]
    · rw [List.getElem?_eq_none (by rw [List.length_set]; omega)]
  · rw [List.getElem?_set_ne e]; exact q
/-- a target that stores to the block's own slots alone -/
def GC (mg : Gm) (g' : TG) (g : DTG) (vs : List Nat) : Prop := ∀ W0 H0 W H σ ρ v d P Q, EnvOk mg W0 H0 W H σ ρ → noOwn ρ vs = true → Rel mg W v d → g (.im d) ρ P → (∀ σ2 ρ2, EnvOk mg W0 H0 W H σ2 ρ2 → noOwn ρ2 vs = true → wipe σ2 vs = wipe σ vs → wipeR ρ2 vs = wipeR ρ vs → P ρ2 → Q σ2 H) → g' v σ H Q
theorem gc_name {i : Nat} {vs : List Nat} (h : i ∈ vs) : GC mg (gName i) (gNm i) vs := fun W0 H0 W H σ ρ v d P Q I n r g k =>
  k _ _ (I.put_im i r) (noOwn_set n) (wipe_set h) (wipeR_set h) g
theorem pgk_tup {es : List Expr} {k : Nat} {t : TGs} {n : Nat} {pos : Pos} (hc : X.calm = true) (h : PGs X es t) (hn : (assignEach es X.env).length = n := by rfl) (hst : (assignEach es X.env).findIdx? (·.1) = none := by rfl) {K : PySem.W.Frag} (hK : X.K = K := by rfl) : PG X (.Tuple es k pos) (gTup K n t) := by subst hK; exact pg_tup hc h hn hst
def GCs (mg : Gm) (g' : TGs) (g : DTGs) (vs : List Nat) : Prop := ∀ W0 H0 W H σ ρ us ds P Q, EnvOk mg W0 H0 W H σ ρ → noOwn ρ vs = true → RelL mg W us ds → g ds ρ P → (∀ σ2 ρ2, EnvOk mg W0 H0 W H σ2 ρ2 → noOwn ρ2 vs = true → wipe σ2 vs = wipe σ vs → wipeR ρ2 vs = wipeR ρ vs → P ρ2 → Q σ2 H) → g' us σ H Q
theorem gcs_nil {vs : List Nat} : GCs mg gNil gNi vs := fun W0 H0 W H σ ρ us ds P Q I n r g k => by
  obtain ⟨e, g⟩ := g
  subst e
  cases r
  exact ⟨rfl, k σ ρ I n rfl rfl g⟩
theorem gcs_cons {vs : List Nat} {t' : TG} {t : DTG} {u' : TGs} {u : DTGs} (h1 : GC mg t' t vs) (h2 : GCs mg u' u vs) : GCs mg (gCons t' u') (gCo t u) vs := fun W0 H0 W H σ ρ us ds P Q I n r g k => by
  cases r with
  | nil => exact g.elim
  | cons a b =>
    refine ⟨_, _, rfl, ?_⟩
    exact h1 W0 H0 W H σ ρ _ _ _ _ I n a g fun σ1 ρ1 I1 n1 e1 f1 g1 => h2 W0 H0 W H σ1 ρ1 _ _ _ _ I1 n1 b g1 fun σ2 ρ2 I2 n2 e2 f2 g2 => k σ2 ρ2 I2 n2 (e2.trans e1) (f2.trans f1) g2
theorem gc_tup {K : PySem.W.Frag} {n : Nat} {vs : List Nat} {t' : TGs} {t : DTGs} (h : GCs mg t' t vs) : GC mg (gTup K n t') (gTu n t) vs := fun W0 H0 W H σ ρ v d P Q I no r g k => by
  unfold gTu at g
  split at g
  · rename_i ds e
    cases e
    obtain ⟨a, us, rfl, h1, h2, r1⟩ := RelH.tup (.inl r) I.wok
    exact ⟨a, us, rfl, SqT.of h1, by rw [r1.length]; exact g.1, h W0 H0 W H σ ρ us ds P Q I no r1 g.2 k⟩
  · exact g.elim
def tYesD : DTT := fun ρ P => P true ρ
theorem st_yes : STt mg tYes tYesD := fun W0 H0 W H σ ρ P Q I h k => k W H true ρ I Stp.refl h
theorem dts_nil : DTs X [] tYes tYesD := ⟨pts_nil, st_yes⟩
theorem dts_one {c : Expr} {t' : TT} {t : DTT} (h : DT X c t' t) : DTs X [c] t' t := ⟨pts_one h.p, h.s⟩
theorem Stp.keepF {W1 : Wd} {H1 : Hp} {σ : L2.St} {ρ ρ1 : Rh} {a : Addr} {o : HO} (u : Stp σ ρ W H ρ1 W1 H1) (h : H a = some o) (hf : W.F a = none) (hn : ∀ (i : Nat) (ys : List D), ρ[i]? = some (some (Sl.ow ys)) → σ[i]? ≠ some (some (V.ref a))) : W1.F a = none := by
  cases q : W1.F a with
  | none => rfl
  | some o2 =>
    rcases u.new a o2 q hf with e | ⟨i, ys, e1, e2⟩
    · rw [e] at h; cases h
    · exact absurd e2 (hn i ys e1)
/-- no own list was given away: what is still is new -/
theorem Stp.fresh {W0 W1 : Wd} {H0 H1 : Hp} {σ : L2.St} {ρ : Rh} (u : Stp σ ρ W H ρ W1 H1) (I : EnvOk mg W0 H0 W1 H1 σ ρ) : ∀ a o, W1.F a = some o → W.F a = none → H a = none := fun a o q n => by
  rcases u.new a o q n with e | ⟨i, ys, e1, e2⟩
  · exact e
  · obtain ⟨b, us, p1, p2, p3, _⟩ := I.ow i ys e1
    rw [e2] at p1
    cases p1
    rw [q] at p3; cases p3
theorem EnvOk.poke {W0 : Wd} {H0 : Hp} {σ : L2.St} {ρ : Rh} {a : Addr} (I : EnvOk mg W0 H0 W H σ ρ) (h1 : W.F a = none) (h2 : NotP W a) (h3 : H0 a = none) (hn : ∀ (i : Nat) (ys : List D), ρ[i]? = some (some (Sl.ow ys)) → σ[i]? ≠ some (some (V.ref a))) (o : HO) : EnvOk mg W0 H0 W (upd H a o) σ ρ where
  wok := I.wok.store h1 h2 o
  ext := ⟨⟨I.ext.mono, fun c u q n => by rw [upd_ne (ne_of_none q h3)]; exact I.ext.keep c u q n, fun c q => by
    by_cases e : c = a
    · subst e; exact h3
    · rw [upd_ne e] at q; exact I.ext.dom c q, I.ext.u⟩, I.ext.new⟩
  len := I.len
  im := I.im
  ow := fun i xs q => by
    obtain ⟨b, us, p1, p2, p⟩ := I.ow i xs q
    refine ⟨b, us, p1, ?_, p⟩
    rw [upd_ne (fun e => hn i xs q (by rw [p1, e]))]
    exact p2
  sep := I.sep
theorem se_lc {wi : TI} {ti : DTI} {g' : TG} {g : DTG} {tt' : TT} {tt : DTT} {te' : TE} {te : DTE} {vs : List Nat} (hi : SI mg wi ti) (hg : GC mg g' g vs) (ht : STt mg tt' tt) (he : SE mg te' te) : SE mg (tLc wi g' tt' te' vs) (dLc ti g tt te vs) := fun W0 H0 W H σ ρ P Q I0 h k =>
  hi W0 H0 W H σ ρ _ _ I0 h fun W1 H1 J ds ρ1 I1 u1 dw h1 => by
    intro Dl hDl
    obtain ⟨hno, h1⟩ := h1
    have w1 := I1.wok
    have e1 : Ext W1 H1 W1 (upd H1 Dl (.lst [])) := new_ext w1 hDl _
    have I2 := I1.step e1 (w1.new hDl _)
    have H0D : H0 Dl = none := I1.ext.dom Dl hDl
    -- no slot holds the new list
    have nslot0 : ∀ (j : Nat) (ys : List D), ρ1[j]? = some (some (Sl.ow ys)) → σ[j]? ≠ some (some (V.ref Dl)) := fun j ys z s => by
      obtain ⟨b, ws, p1, p2, _⟩ := I1.ow j ys z
      rw [s] at p1
      cases p1
      rw [hDl] at p2; cases p2
    have nslot : ∀ (j : Nat) (ys : List D), (wipeR ρ1 vs)[j]? = some (some (Sl.ow ys)) → (wipe σ vs)[j]? ≠ some (some (V.ref Dl)) := fun j ys z s => by
      obtain ⟨z1, z2⟩ := wipeR_some z
      rw [wipe_not z2] at s
      exact nslot0 j ys z1 s
    let Inv := fun (i : Nat) (Hc : Hp) => ∃ Wc acc vs', EnvOk mg W0 H0 Wc Hc σ ρ1 ∧ Up W1 H1 Wc Hc ∧ (∀ a o, Wc.F a = some o → W1.F a = none → H1 a = none) ∧ Hc Dl = some (.lst vs') ∧ Wc.F Dl = none ∧ NotP Wc Dl ∧ RelL mg Wc vs' acc ∧ dLcL g tt te (wipeR ρ1 vs) (ds.drop i) acc fun zs => P (.fr zs) ρ1
    refine ⟨fun i m Hc => m = ds.length - i ∧ i ≤ ds.length ∧ Inv i Hc, ⟨ds.length, by simp, Nat.zero_le _, W1, [], [], I2, e1.toUp, fun a o z n => (by rw [n] at z; cases z), upd_same, w1.free hDl, w1.notP_new hDl, .nil, h1⟩, ?_⟩
    rintro i m Hc ⟨rfl, hi, Wc, acc, us, Ic, uc, nc, hD, hF, hP, hr, q⟩
    obtain ⟨go, stop⟩ := dw Wc Hc Ic.wok uc.le
    by_cases hlt : i < ds.length
    · have hd : ds[i]? = some ds[i] := List.getElem?_eq_getElem hlt
      have e : ds.drop i = ds[i] :: ds.drop (i + 1) := List.drop_eq_getElem_cons hlt
      rw [e] at q
      refine .inr ⟨(go i _ hd).1, Inv (i + 1), fun H' p => ⟨ds.length - (i + 1), by omega, rfl, hlt, p⟩, fun x H' y => ?_⟩
      obtain ⟨W3, w3, e3, r3⟩ := (go i _ hd).2 x H' y
      have I3 := Ic.step e3 w3
      have hD3 := e3.keep Dl _ hD hP
      have hP3 := e3.notP hD hP
      have hF3 : W3.F Dl = none := by
        cases z : W3.F Dl with
        | none => rfl
        | some o => rw [e3.new Dl o z hF] at hD; cases hD
      have n3 : ∀ a o, W3.F a = some o → W1.F a = none → H1 a = none := fun a o z n => by
        cases z2 : Wc.F a with
        | some o2 => exact nc a o2 z2 n
        | none => exact uc.dom a (e3.new a o z z2)
      have u3 : Up W1 H1 W3 H' := uc.trans e3.toUp
      refine hg W0 H0 W3 H' _ _ x ds[i] _ _ (I3.wiped vs) noOwn_wiped r3 q fun σ4 ρ4 I4 no4 ew er q4 => ⟨ew.trans wipe_wipe, ?_⟩
      rw [wipe_wipe] at ew
      rw [wipeR_wipeR] at er
      have ns4 : ∀ (j : Nat) (ys : List D), ρ4[j]? = some (some (Sl.ow ys)) → σ4[j]? ≠ some (some (V.ref Dl)) := fun j ys z s => by
        by_cases hj : j ∈ vs
        · have z1 := List.all_eq_true.mp no4 j hj
          rw [z] at z1
          cases z1
        · have z1 : (wipeR ρ4 vs)[j]? = some (some (Sl.ow ys)) := by rw [wipeR_not hj]; exact z
          have s1 : (wipe σ4 vs)[j]? = some (some (V.ref Dl)) := by rw [wipe_not hj]; exact s
          rw [er] at z1
          rw [ew] at s1
          exact nslot j ys z1 s1
      -- what holds behind a turn, the block's slots as they were
      have back : ∀ W7 H7, EnvOk mg W0 H0 W7 H7 σ4 ρ4 → Stp σ4 ρ4 W3 H' ρ4 W7 H7 → EnvOk mg W0 H0 W7 H7 σ ρ1 ∧ Up W1 H1 W7 H7 ∧ (∀ a o, W7.F a = some o → W1.F a = none → H1 a = none) ∧ H7 Dl = some (.lst us) ∧ W7.F Dl = none ∧ NotP W7 Dl ∧ RelL mg W7 us acc := fun W7 H7 I7 u7 => by
        have J7 := I7.wiped vs
        rw [ew, er] at J7
        refine ⟨I3.unwiped hno J7 u7.le, u3.trans u7.toUp, fun a o z n => ?_, u7.keep Dl _ hD3 hP3, u7.keepF hD3 hF3 ns4, u7.notP hD3 hP3, hr.mono (e3.le.trans u7.le)⟩
        cases z2 : W3.F a with
        | some o2 => exact n3 a o2 z2 n
        | none => exact u3.dom a (u7.fresh I7 a o z z2)
      refine ht W0 H0 W3 H' σ4 ρ4 _ _ I4 q4 fun W5 H5 b ρ5 I5 u5 q5 => ?_
      cases b with
      | true =>
        replace q5 := q5.1 rfl; rw [if_pos rfl]
        refine he W0 H0 W5 H5 σ4 ρ5 _ _ I5 q5 fun W6 H6 v r ρ6 I6 u6 R6 q6 => ?_
        obtain ⟨e6, hz, q6⟩ := q6
        obtain ⟨W7, I7, u7, r7⟩ := u6.settle I5 I6 R6
        rw [e6] at I7 u7
        obtain ⟨b1, b2, b3, b4, b5, b6, b7⟩ := back W7 H6 I7 (u5.trans u7)
        refine ⟨us, b4, by rw [hr.length]; exact hz, W7, acc ++ [r.d], us ++ [v], b1.poke b5 b6 H0D nslot0 _, ⟨b2.mono, fun a o z n => ?_, fun a z => ?_, b2.u⟩, b3, upd_same, b5, b6, b7.append (.cons r7 .nil), q6⟩
        · rw [upd_ne (ne_of_none z hDl)]; exact b2.keep a o z n
        · by_cases e : a = Dl
          · subst e; exact hDl
          · rw [upd_ne e] at z; exact b2.dom a z
      | false =>
        replace q5 := q5.2 rfl; rw [if_neg Bool.false_ne_true]
        obtain ⟨e5, q5⟩ := q5
        subst e5
        obtain ⟨b1, b2, b3, b4, b5, b6, b7⟩ := back W5 H5 I5 u5
        exact ⟨W5, acc, us, b1, b2, b3, b4, b5, b6, b7, q5⟩
    · have e : i = ds.length := by omega
      subst e
      rw [List.drop_length] at q
      refine .inl ⟨stop, k Wc Hc _ (.fr acc) ρ1 Ic ⟨u1.toUp.trans uc, fun a o z n => ?_, u1.lat⟩ ⟨Dl, us, rfl, hD, hF, hP, u1.dom Dl hDl, hr, nslot0⟩ q⟩
      cases z2 : W1.F a with
      | some o2 => exact u1.new a o2 z2 n
      | none => exact .inl (u1.dom a (nc a o z z2))
section
variable {elt tg iter : Expr} {ifs : List Expr} {scope : Scope} {own : List (Str × Nat)} {pos : Pos} {wi : TI} {ti : DTI} {g' : TG} {g : DTG} {tt' : TT} {tt : DTT} {te' : TE} {te : DTE}
abbrev BlkX (X : Cx) (scope : Scope) (s : Shared) (H : Hp) (C : Addr) (cl : List (Str × Addr)) (fp : List Addr) : Cx := X.blk s H scope (compEnvC scope cl C X.env) fp
theorem de_lc (hc : X.calm = true) (hN : X.N.Nodup) (hi : DI X tg iter wi ti) (ok : BlkOk X.N X.env.scope scope own)
    (hg : ∀ s H C cl fp, PG (BlkX X scope s H C cl fp) tg g') (hgc : ∀ mg, GC mg g' g (own.map (·.2))) (ht : ∀ s H C cl fp, DTs (BlkX X scope s H C cl fp) ifs tt' tt)
    (he : ∀ s H C cl fp, DE (BlkX X scope s H C cl fp) elt te' te) (hs : ∀ x, foldedSetIterable iter X.env x = pure x := by intro _; rfl) :
    DE X (.ListComp elt [⟨tg, iter, ifs, 0⟩] scope pos) (tLc wi g' tt' te' (own.map (·.2))) (dLc ti g tt te (own.map (·.2))) :=
  ⟨pe_lc hc hN hi.p ok hg (fun s H C cl fp => (ht s H C cl fp).p) (fun s H C cl fp => (he s H C cl fp).p) hs, se_lc hi.s (hgc _) (ht ⟨X.s_0.heap, X.s_0.gens, X.s_0.drawn, X.s_0.toks, X.s_0.os⟩ X.H_0 0 [] []).s (he X.s_0 X.H_0 0 [] []).s⟩
theorem ds_setLc {i : Nat} {y : Str} {py spos : Pos} (hc : X.calm = true) (hN : X.N.Nodup) (hy : X.N[i]? = some y) (hyl : X.env.scope.names.lookup y = some .local)
    (hsw : swapsWith (.ListComp elt [⟨tg, iter, ifs, 0⟩] scope pos) (some (.Name y py)) spos.line X.env = pure true) (hi : DI X tg iter wi ti) (ok : BlkOk X.N X.env.scope scope own)
    (hg : ∀ s H C cl fp, PG (BlkX X scope s H C cl fp) tg g') (hgc : ∀ mg, GC mg g' g (own.map (·.2))) (ht : ∀ s H C cl fp, DTs (BlkX X scope s H C cl fp) ifs tt' tt)
    (he : ∀ s H C cl fp, DE (BlkX X scope s H C cl fp) elt te' te) (hs : ∀ x, foldedSetIterable iter X.env x = pure x := by intro _; rfl) :
    DS X (.Assign [.Name y py] (.ListComp elt [⟨tg, iter, ifs, 0⟩] scope pos) spos) (tAsg (tLc wi g' tt' te' (own.map (·.2))) (gName i)) (dAsg (dLc ti g tt te (own.map (·.2))) (gNm i)) :=
  ⟨ps_setLc hc hN hy hyl hsw hi.p ok hg (fun s H C cl fp => (ht s H C cl fp).p) (fun s H C cl fp => (he s H C cl fp).p) hs, ss_asg (se_lc hi.s (hgc _) (ht X.s_0 X.H_0 0 [] []).s (he X.s_0 X.H_0 0 [] []).s) (sg_name i)⟩
end
end
end DL
/-! Deep readings: items, slices, own lists changed, calls of defs, a def as a whole. -/
namespace DL
open PySem PySem.Spec PyProof.Rows L2
section
variable {X : Cx} {mg : Gm} {W W' : Wd} {H H' : Hp} {v x y : V}

/-! ### items -/
theorem RelL.at {vs : List V} {ds : List D} {i : Int} {d : D} (r : RelL mg W vs ds) (h : atI ds i = some d) : ∃ v, atI vs i = some v ∧ Rel mg W v d := by
  unfold atI at h ⊢
  rw [r.length]
  cases e : ixN ds.length i with
  | none => rw [e] at h; cases h
  | some j =>
    rw [e] at h
    obtain ⟨v, h1, h2⟩ := r.get (show ds[j]? = some d from h)
    exact ⟨v, h1, h2⟩
def oIx : D → D → (R → Prop) → Prop := fun x y P => match x, y with
  | .lst xs, .int i => ∃ d, atI xs i = some d ∧ P (.im d)
  | .tup xs, .int i => ∃ d, atI xs i = some d ∧ P (.im d)
  | .str z, .int i => z.length ≤ sizeLine ∧ ∃ c, atI z.cps.toList i = some c ∧ P (.im (.str ⟨#[c]⟩))
  | _, _ => False
theorem os_ix {K : PySem.W.Frag} : OpS mg (rIx K) oIx := fun W H x y dx dy P Q w a b o k => by
  unfold oIx at o
  split at o
  · obtain ⟨d, e, o⟩ := o
    obtain ⟨p, vs, rfl, h1, n1, r1⟩ := a.lst w
    obtain ⟨v, h2, h3⟩ := r1.at e
    exact .inl ⟨p, vs, _, v, rfl, b.int, SqL.of h1, h2, k W H _ (.im _) w (Ext.refl _ _) h3 o⟩
  · obtain ⟨d, e, o⟩ := o
    obtain ⟨p, vs, rfl, h1, n1, r1⟩ := a.tup w
    obtain ⟨v, h2, h3⟩ := r1.at e
    exact .inr (.inl ⟨p, vs, _, v, rfl, b.int, SqT.of h1, h2, k W H _ (.im _) w (Ext.refl _ _) h3 o⟩)
  · obtain ⟨hz, c, e, o⟩ := o
    exact .inr (.inr ⟨_, _, c, a.str, b.int, hz, e, k W H _ (.im _) w (Ext.refl _ _) (Rel.str _) o⟩)
  · exact o.elim
theorem de_ix {a b : Expr} {pos : Pos} {ta' tb' : TE} {ta tb : DTE} (ha : DE X a ta' ta) (hb : DE X b tb' tb) (hs : PlainIx b := by intro _ _; rfl) {K : PySem.W.Frag} (hK : X.K = K := by rfl) : DE X (.Subscript a b pos) (tOp (rIx K) ta' tb') (dOp oIx ta tb) := by subst hK; exact ⟨pe_ix ix_seq ha.p hb.p hs, se_op os_ix ha.s hb.s⟩

/-! ### slices -/
abbrev DTO := Rh → (Option Int → Rh → Prop) → Prop
def SO (mg : Gm) (t' : TO) (t : DTO) : Prop := ∀ W0 H0 W H σ ρ P Q, EnvOk mg W0 H0 W H σ ρ → t ρ P → (∀ W' H' o ρ', EnvOk mg W0 H0 W' H' σ ρ' → Stp σ ρ W H ρ' W' H' → P o ρ' → Q o H') → t' σ H Q
structure DP (X : Cx) (e : Option Expr) (t' : TO) (t : DTO) : Prop where
  p : PO X e t'
  s : SO (gm X) t' t
def dNoPart : DTO := fun ρ P => P none ρ
def dPart (te : DTE) : DTO := fun ρ P => te ρ fun r ρ1 => match r with
  | .im (.int i) => P (some i) ρ1
  | _ => False
theorem dp_none : DP X none tNoPart dNoPart := ⟨po_none, fun W0 H0 W H σ ρ P Q I h k => k W H none ρ I Stp.refl h⟩
theorem dp_some {e : Expr} {te' : TE} {te : DTE} (he : DE X e te' te) : DP X (some e) (tPart te') (dPart te) := ⟨po_some he.p, fun W0 H0 W H σ ρ P Q I h k =>
  he.s W0 H0 W H σ ρ _ _ I h fun W1 H1 v r ρ1 I1 u1 R1 h1 => by
    split at h1
    · rename_i i
      have R2 : Rel (gm X) W1 v (.int i) := R1
      cases R2
      exact ⟨_, rfl, k W1 H1 _ ρ1 I1 u1 h1⟩
    · exact h1.elim⟩
def cutA {α : Type} (xs : List α) (lo hi : Option Int) : List α := (xs.drop (HT.sIx xs.length 0 lo)).take (HT.sIx xs.length xs.length hi - HT.sIx xs.length 0 lo)
theorem RelL.cut {vs : List V} {ds : List D} (r : RelL mg W vs ds) (lo hi : Option Int) : RelL mg W (cutV vs lo hi) (cutA ds lo hi) := by
  unfold cutV cutA
  rw [r.length]
  exact (r.drop _).take _
def rSlAll (K : PySem.W.Frag) : V → Option Int → Option Int → Hp → VK → Prop := fun x lo hi H Q => rSlL K x lo hi H Q ∨ rSlA K x lo hi H Q
def dSl (te : DTE) (tl th : DTO) : DTE := fun ρ P => te ρ fun r ρ1 => tl ρ1 fun l ρ2 => th ρ2 fun u ρ3 => match r.d with
  | .lst xs => P (.fr (cutA xs l u)) ρ3
  | .tup xs => P (.im (.tup (cutA xs l u))) ρ3
  | _ => False
theorem cutA_whole {α : Type} {xs : List α} {lo hi : Option Int} (h : HT.sIx xs.length 0 lo = 0 ∧ HT.sIx xs.length xs.length hi = xs.length) : cutA xs lo hi = xs := by
  unfold cutA
  rw [h.1, h.2, List.drop_zero, Nat.sub_zero, List.take_length]
theorem de_slice0 {e : Expr} {lo hi : Option Expr} {p2 pos : Pos} {te' : TE} {te : DTE} {tl' th' : TO} {tl th : DTO} (he : DE X e te' te) (hl : DP X lo tl' tl) (hh : DP X hi th' th) : DE X (.Subscript e (.Slice lo hi none p2) pos) (tSl (rSlAll X.K) te' tl' th') (dSl te tl th) :=
  ⟨pe_slice (sl_list.or sl_tupA) he.p hl.p hh.p, fun W0 H0 W H σ ρ P Q I h k =>
  he.s W0 H0 W H σ ρ _ _ I h fun W1 H1 v r ρ1 I1 u1 R1 h1 => hl.s W0 H0 W1 H1 σ ρ1 _ _ I1 h1 fun W2 H2 l ρ2 I2 u2 h2 => hh.s W0 H0 W2 H2 σ ρ2 _ _ I2 h2 fun W3 H3 u ρ3 I3 u3 h3 => by
    have a := (R1.relH I1).up (u2.trans u3).toUp
    have us := (u1.trans u2).trans u3
    split at h3
    · rename_i xs e
      rw [e] at a
      obtain ⟨p, vs, rfl, g1, g2, r1⟩ := a.lst I3.wok
      refine .inl ⟨p, vs, rfl, SqL.of g1, fun q hq => ?_⟩
      obtain ⟨k1, k2, k3⟩ := rf_new I3.wok hq (r1.cut l u)
      exact k _ _ _ (.fr _) ρ3 (I3.step k2 k1) (us.trans k2.stp) ((RF.rr k3 I3).back us.dom) h3
    · rename_i xs e
      rw [e] at a
      obtain ⟨p, vs, rfl, g1, g2, r1⟩ := a.tup I3.wok
      refine .inr ⟨p, vs, rfl, SqT.of g1, fun hw => ?_, fun _ q hq => ?_⟩
      · rw [r1.length] at hw
        rw [cutA_whole hw] at h3
        exact k _ _ _ (.im _) ρ3 I3 us (Rel.tup g2 r1) h3
      · obtain ⟨k1, k2, k3⟩ := rf_tup I3.wok hq (r1.cut l u)
        exact k _ _ _ (.im _) ρ3 (I3.step k2 k1) (us.trans k2.stp) k3 h3
    · exact h3.elim⟩
theorem de_slice {e : Expr} {lo hi : Option Expr} {p2 pos : Pos} {te' : TE} {te : DTE} {tl' th' : TO} {tl th : DTO} (he : DE X e te' te) (hl : DP X lo tl' tl) (hh : DP X hi th' th) {K : PySem.W.Frag} (hK : X.K = K := by rfl) : DE X (.Subscript e (.Slice lo hi none p2) pos) (tSl (rSlAll K) te' tl' th') (dSl te tl th) := by subst hK; exact de_slice0 he hl hh
/-- xs[::-1] of a list -/
def dRevL (te : DTE) : DTE := fun ρ P => te ρ fun r ρ1 => match r.d with
  | .lst xs => P (.fr xs.reverse) ρ1
  | _ => False
theorem de_revL0 {e : Expr} {te' : TE} {te : DTE} {k : Nat} {p1 p2 p3 pos : Pos} (he : DE X e te' te) : DE X (.Subscript e (.Slice none none (some (.UnaryOp .USub (.Constant (.int 1) k p1) p2)) p3) pos) (tRevL X.K te') (dRevL te) :=
  ⟨pe_revL he.p, fun W0 H0 W H σ ρ P Q I h k =>
  he.s W0 H0 W H σ ρ _ _ I h fun W1 H1 v r ρ1 I1 u1 R1 h1 => by
    have a := R1.relH I1
    split at h1
    · rename_i xs e
      rw [e] at a
      obtain ⟨p, vs, rfl, g1, g2, r1⟩ := a.lst I1.wok
      refine ⟨p, vs, rfl, SqL.of g1, fun q hq => ?_⟩
      obtain ⟨k1, k2, k3⟩ := rf_new I1.wok hq r1.reverse
      exact k _ _ _ (.fr _) ρ1 (I1.step k2 k1) (u1.trans k2.stp) ((RF.rr k3 I1).back u1.dom) h1
    · exact h1.elim⟩

theorem de_revL {e : Expr} {te' : TE} {te : DTE} {k : Nat} {p1 p2 p3 pos : Pos} (he : DE X e te' te) {K : PySem.W.Frag} (hK : X.K = K := by rfl) : DE X (.Subscript e (.Slice none none (some (.UnaryOp .USub (.Constant (.int 1) k p1) p2)) p3) pos) (tRevL K te') (dRevL te) := by subst hK; exact de_revL0 he
/-! ### own lists changed -/
/-- slot j holds an own list -/
def ownAt (ρ : Rh) (j : Nat) (P : List D → Prop) : Prop := match ρ[j]? with
  | some (some (.ow xs)) => P xs
  | _ => False
theorem ownAt_inv {ρ : Rh} {j : Nat} {P : List D → Prop} (h : ownAt ρ j P) : ∃ xs, ρ[j]? = some (some (.ow xs)) ∧ P xs := by
  unfold ownAt at h
  split at h
  · rename_i xs e
    exact ⟨xs, e, h⟩
  · exact h.elim
section
variable {e : Expr} {te' : TE} {te : DTE} {pos : Pos} {apos cpos : Pos}
def dAppend (j : Nat) (te : DTE) : DTS := fun nx _ _ _ ρ => ownAt ρ j fun _ => te ρ fun r ρ1 => ownAt (frz r ρ1) j fun xs => xs.length < sizeLine ∧ nx ((frz r ρ1).set j (some (.ow (xs ++ [r.d]))))
theorem ss_append {j : Nat} {K : PySem.W.Frag} (he : SE mg te' te) : SS mg (tDrop (tBM K "list" rAppend (tVar j) (tCons te' tNil))) (dAppend j te) := fun W0 H0 W H σ ρ P E I h k => by
  obtain ⟨xs0, g0, h⟩ := ownAt_inv h
  obtain ⟨a, vs0, p1, p2, p3, p4, p5, p6⟩ := I.ow j xs0 g0
  refine ⟨.ref a, p1, .inl ⟨rfl, vs0, SqL.of p2⟩, ?_⟩
  refine he W0 H0 W H σ ρ _ _ I h fun W1 H1 v r ρ1 I1 u1 R1 h1 => ?_
  obtain ⟨W2, I2, u2, r2⟩ := u1.settle I I1 R1
  obtain ⟨xs, g1, hz, h1⟩ := ownAt_inv h1
  obtain ⟨b, vs, q1, q2, q3, q4, q5, q6⟩ := I2.ow j xs g1
  rw [p1] at q1
  cases q1
  refine ⟨a, vs, v, rfl, rfl, q2, by rw [q6.length]; exact hz, ?_⟩
  exact k.nx W2 _ σ _ u2.le (I2.store_own g1 p1 (q6.append (.cons r2 .nil))) h1
theorem ds_append {j : Nat} {x : Str} {p1 : Pos} (ho : DE X (.Name x p1) (tVar j) (dVar j)) (he : DE X e te' te)
    (hbase : attributeBase (.Name x p1) "append" X.env (eval (.Name x p1) X.env) = eval (.Name x p1) X.env := by rfl)
    (hfew : (((backTo cpos (starEach [e] X.env)).all fun x => !x.1) && ((backToKw cpos (keywordEach [] X.env)).all fun x => x.1.isSome) && decide (([e].length + ([] : List Keyword).length + if ([] : List Keyword).isEmpty = true then 0 else 1) < 30)) = true := by rfl)
    (hline : (apos.endLine == cpos.line) = true := by rfl) (hs : starEach [e] X.env = (false, eval e X.env) :: starEach [] X.env := by rfl) (hplain : (backTo cpos (starEach [] X.env)).any (·.1) = false := by rfl)
    (hsw : swapsWith (.Call (.Attribute (.Name x p1) "append" apos) [e] [] cpos) none pos.line X.env = pure false := by rfl) :
    DS X (.Expr (.Call (.Attribute (.Name x p1) "append" apos) [e] [] cpos) pos) (tDrop (tBM X.K "list" rAppend (tVar j) (tCons te' tNil))) (dAppend j te) :=
  ⟨ps_expr (pe_bm PySem.F.plainAttrs_list PySem.F.slot_list_append PySem.F.type_list_append mt_append ho.p (pa_cons he.p pa_nil hs) hbase hfew hline hs hplain) hsw, ss_append he.s⟩
/-- xs[i] = e -/
def dSetIx (j : Nat) (te ti : DTE) : DTS := fun nx _ _ _ ρ => te ρ fun r ρ1 => ownAt (frz r ρ1) j fun _ => ti (frz r ρ1) fun s ρ2 => match s with
  | .im (.int i) => ownAt ρ2 j fun xs => ∃ k, ixN xs.length i = some k ∧ nx (ρ2.set j (some (.ow (xs.set k r.d))))
  | _ => False
theorem ss_setIx {j : Nat} {ti' : TE} {ti : DTE} (he : SE mg te' te) (hi : SE mg ti' ti) : SS mg (tAsg te' (gSub (tVar j) ti' rSetL)) (dSetIx j te ti) := fun W0 H0 W H σ ρ P E I h k =>
  he W0 H0 W H σ ρ _ _ I h fun W1 H1 v r ρ1 I1 u1 R1 h1 => by
    obtain ⟨W2, I2, u2, r2⟩ := u1.settle I I1 R1
    obtain ⟨xs0, g0, h1⟩ := ownAt_inv h1
    obtain ⟨a, vs0, p1, p2, p3, p4, p5, p6⟩ := I2.ow j xs0 g0
    refine ⟨.ref a, p1, ?_⟩
    refine hi W0 H0 W2 H1 σ _ _ _ I2 h1 fun W3 H3 w s ρ3 I3 u3 R3 h3 => ?_
    split at h3
    · rename_i i
      have R4 : Rel mg W3 w (.int i) := R3
      cases R4
      obtain ⟨xs, g1, n, en, h3⟩ := ownAt_inv h3
      obtain ⟨b, vs, q1, q2, q3, q4, q5, q6⟩ := I3.ow j xs g1
      rw [p1] at q1
      cases q1
      refine ⟨a, vs, _, n, rfl, rfl, q2, by rw [q6.length]; exact en, ?_⟩
      exact k.nx W3 _ σ _ (u2.le.trans u3.le) (I3.store_own g1 p1 (q6.set (r2.mono u3.le) n)) h3
    · exact h3.elim
theorem ds_setIx {j : Nat} {x : Str} {p1 p2 : Pos} {i : Expr} {ti' : TE} {ti : DTE} (he : DE X e te' te) (ho : DE X (.Name x p1) (tVar j) (dVar j)) (hi : DE X i ti' ti)
    (ha : ∀ v, assign (.Subscript (.Name x p1) i p2) X.env v = (do
      let ov ← holding [v] (eval (.Name x p1) X.env)
      let iv ← holding [v, ov] (eval i X.env)
      standAt p2
      holding [v, ov, iv] (setItem ov iv v)
      release [v, ov, iv] []) := by intro _; rfl)
    (hs : swapsWithSole [.Subscript (.Name x p1) i p2] e pos.line X.env = pure false := by rfl) (hw : swappedStores [.Subscript (.Name x p1) i p2] e X.env = pure none := by rfl) (h1 : (assignEach [.Subscript (.Name x p1) i p2] X.env).map (·.2) = [assign (.Subscript (.Name x p1) i p2) X.env] := by rfl) :
    DS X (.Assign [.Subscript (.Name x p1) i p2] e pos) (tAsg te' (gSub (tVar j) ti' rSetL)) (dSetIx j te ti) := ⟨ps_asg he.p (pg_sub ho.p hi.p set_list ha) hs hw h1, ss_setIx he.s hi.s⟩
/-- x += e: ints, texts -/
def ipAll : TIp := fun x y H Q => (ipI fun i j => i + j) x y H Q
def dAug (i : Nat) (te : DTE) (f : Int → Int → Int) : DTS := fun nx _ _ _ ρ => match ρ[i]? with
  | some (some (.im (.int a))) => te ρ fun r ρ1 => match r with
    | .im (.int b) => nx (store i (.im (.int (f a b))) ρ1)
    | _ => False
  | _ => False
theorem ss_aug {i : Nat} {f : Int → Int → Int} (he : SE mg te' te) : SS mg (tAug i te' (ipI f)) (dAug i te f) := fun W0 H0 W H σ ρ P E I h k => by
  unfold dAug at h
  split at h
  · rename_i a ea
    obtain ⟨v, h1, h2⟩ := I.im i _ ea
    cases h2
    refine ⟨_, h1, ?_⟩
    refine he W0 H0 W H σ ρ _ _ I h fun W1 H1 w r ρ1 I1 u1 R1 h1 => ?_
    split at h1
    · rename_i b
      have R4 : Rel mg W1 w (.int b) := R1
      cases R4
      exact ⟨a, b, rfl, rfl, k.nx W1 H1 _ _ u1.le (I1.put_im i (Rel.int _)) h1⟩
    · exact h1.elim
  · exact h.elim
theorem ds_aug {i : Nat} {x : Str} {op : Operator} {f : Int → Int → Int} {pos' : Pos} (hN : X.N.Nodup) (hi : X.N[i]? = some x) (hx : Loc X.env.scope x) (he : DE X e te' te) (ho : PIp X op (ipI f)) (hf : X.fn x = true ∨ X.env.scope.names.lookup x = some .local := by first | exact .inl rfl | exact .inr rfl | assumption) :
    DS X (.AugAssign (.Name x pos') op e pos) (tAug i te' (ipI f)) (dAug i te f) := ⟨ps_aug hN hi hx he.p ho hf, ss_aug he.s⟩
end

/-! ### isinstance -/
def tyD : D → Option String
  | .non => some "NoneType"
  | .bl _ => some "bool"
  | .int _ => some "int"
  | .str _ => some "str"
  | .lst _ => some "list"
  | .tup _ => some "tuple"
  | .dic _ => some "dict"
  | _ => none
def isTy (n T : String) : Bool := n == T || (n == "bool" && T == "int")
def dIsi (T : String) (te : DTE) : DTE := fun ρ P => te ρ fun r ρ1 => match tyD r.d with
  | some n => P (.im (.bl (isTy n T))) ρ1
  | none => False
def KitOk (T : String) : Prop := ∀ n, n ∈ ["NoneType", "bool", "int", "str", "list", "tuple", "dict"] → kitB n T = some (isTy n T)
theorem kitOk_of {T : String} (h : (["NoneType", "bool", "int", "str", "list", "tuple", "dict"].all fun n => decide (kitB n T = some (isTy n T))) = true) : KitOk T := fun n hn => of_decide_eq_true (List.all_eq_true.mp h n hn)
theorem kit_int : KitOk "int" := kitOk_of (by decide +kernel)
theorem kit_bool : KitOk "bool" := kitOk_of (by decide +kernel)
theorem kit_tuple : KitOk "tuple" := kitOk_of (by decide +kernel)
theorem kit_list : KitOk "list" := kitOk_of (by decide +kernel)
theorem kit_str : KitOk "str" := kitOk_of (by decide +kernel)
theorem tyX_of {K : PySem.W.Frag} {d : D} {n : String} (h : RelH mg W H v d) (w : WOk W H) (e : tyD d = some n) : TyX K H v (.type n) := by
  cases d with
  | non => cases h.non; cases e; exact .base .non
  | bl b => cases h.bl; cases e; exact .base (.bl _)
  | int b => cases h.int; cases e; exact .base (.int _)
  | str b => cases h.str; cases e; exact .base (.str _)
  | lst xs =>
    obtain ⟨p, vs, rfl, h1, _⟩ := h.lst w
    cases e; exact .base (.lst h1)
  | tup xs =>
    obtain ⟨p, vs, rfl, h1, _⟩ := h.tup w
    cases e; exact .base (.tup h1)
  | dic es =>
    cases e
    rcases h with h | ⟨_, _, _, _, e2, _⟩
    · cases h with
      | dic h1 _ => exact .base (.dK (w.sub _ _ h1))
    · cases e2
  | obj c fs => cases e
  | purse => cases e
  | scr xs => cases e
theorem tyD_mem {d : D} {n : String} (e : tyD d = some n) : n ∈ ["NoneType", "bool", "int", "str", "list", "tuple", "dict"] := by
  cases d <;> first | (cases e; decide) | cases e
theorem de_isi0 {e : Expr} {te' : TE} {te : DTE} {T : String} {xT : Str} {p p2 pos : Pos} (he : DE X e te' te) (hT : KitOk T) (hg : Gl X "isinstance") (hm : X.mg "isinstance" = none) (hg2 : Gl X xT) (hm2 : X.mg xT = none) (hv2 : bootBuiltins xT = some (.type T))
    (hn2 : xT ≠ "__name__" := by decide) (hd2 : (xT == ("__debug__" : Str)) = false := by decide)
    (h1 : starEach [e, .Name xT p2] X.env = (false, eval e X.env) :: starEach [.Name xT p2] X.env := by rfl) (h2 : (backTo pos (starEach [.Name xT p2] X.env)).any (·.1) = false := by rfl) :
    DE X (.Call (.Name "isinstance" p) [e, .Name xT p2] [] pos) (tCB (rIsi X.K) (tCons te' (tCons (tC (.ty T)) tNil))) (dIsi T te) :=
  ⟨pe_callB call_isi hg hm boot_isinstance (pa_cons he.p (pa_cons (pe_bltn hg2 hm2 hv2 rfl hn2 hd2) pa_nil) h1) (by decide) (by decide) h1 h2, fun W0 H0 W H σ ρ P Q I h k =>
  he.s W0 H0 W H σ ρ _ _ I h fun W1 H1 v r ρ1 I1 u1 R1 h1 => by
    split at h1
    · rename_i n en
      exact ⟨v, .ty T, .type n, .type T, isTy n T, rfl, .ty T, tyX_of (R1.relH I1) I1.wok en, kit_ty (hT n (tyD_mem en)), k W1 H1 _ (.im _) ρ1 I1 u1 (Rel.bl _) h1⟩
    · exact h1.elim⟩

theorem de_isi {e : Expr} {te' : TE} {te : DTE} {T : String} {xT : Str} {p p2 pos : Pos} (he : DE X e te' te) (hT : KitOk T) (hg : Gl X "isinstance") (hm : X.mg "isinstance" = none) (hg2 : Gl X xT) (hm2 : X.mg xT = none) (hv2 : bootBuiltins xT = some (.type T))
    (hn2 : xT ≠ "__name__" := by decide) (hd2 : (xT == ("__debug__" : Str)) = false := by decide)
    (h1 : starEach [e, .Name xT p2] X.env = (false, eval e X.env) :: starEach [.Name xT p2] X.env := by rfl) (h2 : (backTo pos (starEach [.Name xT p2] X.env)).any (·.1) = false := by rfl) {K : PySem.W.Frag} (hK : X.K = K := by rfl) :
    DE X (.Call (.Name "isinstance" p) [e, .Name xT p2] [] pos) (tCB (rIsi K) (tCons te' (tCons (tC (.ty T)) tNil))) (dIsi T te) := by subst hK; exact de_isi0 he hT hg hm hg2 hm2 hv2 hn2 hd2 h1 h2

/-! ### calls of defs -/
abbrev DSp := List D → (R → Prop) → Prop
def spOf (mg : Gm) (S : DSp) : Sp := fun vs H Q _ => ∃ W ds P, WOk W H ∧ RelL mg W vs ds ∧ S ds P ∧ ∀ W' H' v r, WOk W' H' → Ext W H W' H' → RF mg H W' H' v r → P r → Q v H'
def dCall (S : DSp) (t : DTA) : DTE := fun ρ P => t ρ fun ds ρ1 => S ds fun r => P r ρ1
theorem se_call {S : DSp} {t' : TA} {t : DTA} (h : SA mg t' t) : SE mg (tCall (spOf mg S) [] E0 t') (dCall S t) := fun W0 H0 W H σ ρ P Q I q k =>
  h W0 H0 W H σ ρ _ _ I q fun W1 H1 vs ds ρ1 I1 u1 R1 h1 => by
    show spOf mg S (vs ++ []) H1 Q E0
    rw [List.append_nil]
    exact ⟨W1, ds, _, I1.wok, R1, h1, fun W' H' v r w e f p => k W' H' v r ρ1 (I1.step e w) (u1.trans e.stp) ((f.rr I1).back u1.dom) p⟩
section
variable {k : Nat} {f : Addr} {fd : FuncData} {ps : List Str} {S : DSp} {x : Str} {p pos : Pos} {e : Expr} {es : List Expr} {t' : TA} {t : DTA}
theorem de_call {gg : Gm} (F : FnOk X.prog X.w X.K X.mg X.base CX0 k f fd ps (spOf gg S)) (hr : Room k X.A) (hg : Gl X x) (hm : X.mg x = some (.ref f)) (hk : PySem.W.keepIn X.K (.ref f) = true) (hb : Binds X.K fd ps [])
    (ha : DA X (e :: es) t' t) (hdb : (x == ("__debug__" : Str)) = false := by decide) (he : starEach (e :: es) X.env = (false, eval e X.env) :: starEach es X.env := by rfl) (hpl : (backTo pos (starEach es X.env)).any (·.1) = false := by rfl) (hG : gm X = gg := by rfl) :
    DE X (.Call (.Name x p) (e :: es) [] pos) (tCall (spOf gg S) [] E0 t') (dCall S t) := by subst hG; exact ⟨pe_call F hr hg hm hk hb .nil pass0 ha.p hdb he hpl, se_call ha.s⟩
end
end

/-! ### a def as a whole -/
def startD (N : List Str) (ds : List D) : Rh := ds.map (fun d => some (.im d)) ++ List.replicate (N.length - ds.length) none
section
variable {P : Program} {w : World} {K : PySem.W.Frag} {mg : Str → Option Value} {base : Heap}
theorem env_start {gg : Gm} {W : Wd} {H : Hp} {N : List Str} {vs : List V} {ds : List D} (wk : WOk W H) (r : RelL gg W vs ds) : EnvOk gg W H W H (L2.start N vs) (startD N ds) := by
  have hl := r.length
  refine ⟨wk, Ext.refl _ _, by unfold L2.start startD; simp [hl], fun i d q => ?_, fun i xs q => ?_, fun i j xs ys a hi => ?_⟩
  · unfold startD at q
    by_cases h : i < ds.length
    · rw [List.getElem?_append_left (by simpa using h), List.getElem?_map] at q
      cases e : ds[i]? with
      | none => rw [e] at q; cases q
      | some d2 =>
        rw [e] at q
        cases q
        obtain ⟨v, h1, h2⟩ := r.get e
        refine ⟨v, ?_, h2⟩
        unfold L2.start
        rw [List.getElem?_append_left (by rw [List.length_map, hl]; exact h), List.getElem?_map, h1]
        rfl
    · rw [List.getElem?_append_right (by simpa using h)] at q
      rw [List.getElem?_replicate] at q
      split at q <;> cases q
  · unfold startD at q
    by_cases h : i < ds.length
    · rw [List.getElem?_append_left (by simpa using h), List.getElem?_map] at q
      cases e : ds[i]? with
      | none => rw [e] at q; cases q
      | some d2 => rw [e] at q; cases q
    · rw [List.getElem?_append_right (by simpa using h)] at q
      rw [List.getElem?_replicate] at q
      split at q <;> cases q
  · unfold startD at hi
    by_cases h : i < ds.length
    · rw [List.getElem?_append_left (by simpa using h), List.getElem?_map] at hi
      cases e : ds[i]? with
      | none => rw [e] at hi; cases hi
      | some d2 => rw [e] at hi; cases hi
    · rw [List.getElem?_append_right (by simpa using h)] at hi
      rw [List.getElem?_replicate] at hi
      split at hi <;> cases hi
/-- what is wanted behind a def's body -/
def fin (P : R → Prop) : DEnds := ⟨fun _ => P (.im .non), P, fun _ => False, fun _ => False⟩
/-- a body from its slots to what is wanted of its answer -/
def runD (t : DTS) (P : R → Prop) (ρ : Rh) : Prop := t (fun _ => P (.im .non)) P (fun _ => False) (fun _ => False) ρ
theorem ok_def {x qual : Str} {st : Stmt} {f : Addr} {fd : FuncData} {N ps : List Str} {k : Nat} {S : DSp} {t : DTS} (F : FunD K x qual (defArgs st) (defBody st) (defScope st) [] [] f fd) (sc : FnScope N ps (defScope st)) (len : ∀ ds P, S ds P → ds.length = ps.length)
    (body : ∀ (cdv : Value) (A : Around) (outer : List Env) (s : Shared) (H : Hp) (E : XK), Room k (A.deeper (envOfC qual (defScope st) s.heap.objs.size f cdv)) → ∃ t', DSs (cxOf CX0 P w K mg base N qual (defScope st) f cdv A outer s H E).nox (defBody st) t' t)
    (ht : ∀ ds P, S ds P → runD t P (startD N ds)) : FnOk P w K mg base CX0 (k + 1) f fd ps (spOf ⟨mg, K⟩ S) := by
  refine F.ok sc (fun vs H Q E h => ?_) (fun cdv A outer s H vs Q E hr h => ?_)
  · obtain ⟨W, ds, PP, wk, r, hS, _⟩ := h
    rw [r.length]; exact len ds PP hS
  · obtain ⟨W, ds, PP, wk, r, hS, q⟩ := h
    obtain ⟨t', h⟩ := body cdv A outer s H E hr
    refine ⟨t', h.p.nox, ?_⟩
    refine h.s W H W H _ _ (fin PP) _ (env_start wk r) (ht ds PP hS) ⟨fun W' H' σ ρ _ I p => q W' H' .non (.im .non) I.wok I.ext Rel.non p, fun _ _ _ _ _ _ p => p.elim, fun _ _ _ _ _ _ p => p.elim, fun W' H' v r' w' e f p => q W' H' v r' w' e f p⟩
end
end DL
/-! The laws' purse: made of the script, drawn from. -/
namespace DL
open PySem PySem.Spec PyProof.Rows L2
section
variable {X : Cx} {mg : Gm} {W W' : Wd} {H H' : Hp} {v x y : V}

theorem iteF2 {A B : Prop} (h : B) : if false = true then A else B := by rw [if_neg Bool.false_ne_true]; exact h
theorem iteT2 {A B : Prop} (h : A) : if true = true then A else B := by rw [if_pos rfl]; exact h

/-- a store within the purse -/
theorem purse_g {a g : Addr} {s t : Int} {xs : List Int} (w : WOk W H) (hu : W.U = some (a, g)) (ha : H a = some (.lst [.ref g, .int s, .int t])) (p : PInv s t xs) : WOk W (upd H g (.lst (xs.map V.int))) ∧ Ext W H W (upd H g (.lst (xs.map V.int))) := by
  have q := w.pu a g hu
  obtain ⟨s', t', xs', h1, h2, _⟩ := q.here
  refine ⟨⟨fun b o z => ?_, fun x y z => ?_⟩, ⟨⟨fun _ _ z => z, fun b o z n => ?_, fun b z => ?_, .inl rfl⟩, fun b o z n => (by rw [n] at z; cases z)⟩⟩
  · rw [upd_ne (ne_of_none z q.fg)]; exact w.sub b o z
  · rw [hu] at z
    cases z
    exact ⟨q.fa, q.fg, q.ne, s, t, xs, by rw [upd_ne q.ne]; exact ha, upd_same, p⟩
  · rw [upd_ne (n a g hu).2]; exact z
  · by_cases e : b = g
    · subst e; rw [upd_same] at z; cases z
    · rw [upd_ne e] at z; exact z
theorem purse_a {a g : Addr} {s t : Int} {xs : List Int} (w : WOk W H) (hu : W.U = some (a, g)) (hg : H g = some (.lst (xs.map V.int))) (p : PInv s t xs) : WOk W (upd H a (.lst [.ref g, .int s, .int t])) ∧ Ext W H W (upd H a (.lst [.ref g, .int s, .int t])) := by
  have q := w.pu a g hu
  refine ⟨⟨fun b o z => ?_, fun x y z => ?_⟩, ⟨⟨fun _ _ z => z, fun b o z n => ?_, fun b z => ?_, .inl rfl⟩, fun b o z n => (by rw [n] at z; cases z)⟩⟩
  · rw [upd_ne (ne_of_none z q.fa)]; exact w.sub b o z
  · rw [hu] at z
    cases z
    exact ⟨q.fa, q.fg, q.ne, s, t, xs, upd_same, by rw [upd_ne q.ne.symm]; exact hg, p⟩
  · rw [upd_ne (n a g hu).1]; exact z
  · by_cases e : b = a
    · subst e; rw [upd_same] at z; cases z
    · rw [upd_ne e] at z; exact z
/-- a new object beside -/
theorem new_beside {p : Addr} {o : HO} (w : WOk W H) (h : H p = none) : WOk W (upd H p o) ∧ Ext W H W (upd H p o) := ⟨w.new h o, new_ext w h o⟩

/-! ### _law_pick -/
def sPick : DSp := fun ds P => ∃ n, ds = [.purse, .int n] ∧ 0 < n ∧ n.natAbs < 2 ^ 200 ∧ ∀ r, 0 ≤ r → r < n → P (.im (.int r))
def tI0 (K : PySem.W.Frag) : TE := tOp (rIxL K) (tVar 0) (tC (.int 0))
def tI00 (K : PySem.W.Frag) : TE := tOp (rIxL K) (tI0 K) (tC (.int 0))
def tNe (K : PySem.W.Frag) : TT := tTest (tOp (rNeD K) (tI0 K) (tLst tNil))
def pickPrimes : List Int := [2147483629, 2147483587, 2147483579, 2147483563, 2147483549, 2147483543, 2147483497]
abbrev rAddI : R2 := rI0 fun i j => .int (i + j)
abbrev rModI : R2 := rI (fun _ j => 0 < j) fun i j => .int (i % j)
abbrev rDivI : R2 := rI CDivW fun i j => .int (i / j)
abbrev rMulI : R2 := rI CMul fun i j => .int (i * j)
abbrev rPowI : R2 := rI CPow fun i j => .int (i ^ j.toNat)
abbrev tInt (i : Int) : TE := tC (.int i)
def tP1 (K : PySem.W.Frag) : TS := tWhile (tAnd (tNe K) (tTest (tOp (rEqD K) (tI00 K) (tInt 0)))) (tDrop (tBM K "list" rPopAt (tI0 K) (tCons (tInt 0) tNil)))
def tP2 (K : PySem.W.Frag) : TS := tIfS (tNe K) (tSeq (tAsg (tOp rModI (tI00 K) (tVar 1)) (gName 2)) (tSeq (tAsg (tOp rDivI (tI00 K) (tVar 1)) (gSub (tI0 K) (tInt 0) rSetL)) (tRet (tVar 2)))) tNext
def tIx (K : PySem.W.Frag) (i : Int) : TE := tOp (rIxL K) (tVar 0) (tInt i)
def tP3 (K : PySem.W.Frag) : TS := tSeq (tAsg (tOp rAddI (tIx K 2) (tInt 1)) (gSub (tVar 0) (tInt 2) rSetL)) (tSeq (tAsg (tIx K 2) (gName 3))
  (tSeq (tAsg (tOp (rIxL K) (tLst (tCons (tInt 2147483629) (tCons (tInt 2147483587) (tCons (tInt 2147483579) (tCons (tInt 2147483563) (tCons (tInt 2147483549) (tCons (tInt 2147483543) (tCons (tInt 2147483497) tNil)))))))) (tOp rModI (tVar 3) (tInt 7))) (gName 4))
  (tSeq (tAsg (tOp rModI (tOp rAddI (tIx K 1) (tOp rMulI (tInt 65537) (tVar 3))) (tInt 2147483647)) (gName 5))
  (tSeq (tAsg (tOp rMulI (tOp rModI (tOp rPowI (tVar 5) (tInt 5)) (tInt 2147483647)) (tOp rAddI (tOp rMulI (tInt 2) (tVar 3)) (tInt 1))) (gName 6))
    (tRet (tOp rModI (tOp rDivI (tOp rModI (tOp rAddI (tVar 6) (tOp rDivI (tIx K 1) (tInt 2147483647))) (tVar 4)) (tInt 61)) (tVar 1)))))))
def tPickAll (K : PySem.W.Frag) : TS := tSeq (tP1 K) (tSeq (tP2 K) (tP3 K))
/-- the purse's numbers, read at a -/
theorem i0_ok {K : PySem.W.Frag} {σ : L2.St} {a : Addr} {b c d : V} {Q : VK} (h0 : σ[0]? = some (some (.ref a))) (ha : H a = some (.lst [b, c, d])) (q : Q b H) : tI0 K σ H Q := ⟨.ref a, h0, a, _, 0, b, rfl, rfl, SqL.of ha, atI_nat (j := 0) rfl, q⟩
theorem ix_ok {K : PySem.W.Frag} {σ : L2.St} {a : Addr} {xs : List V} {j : Nat} {v : V} {Q : VK} (h0 : σ[0]? = some (some (.ref a))) (ha : H a = some (.lst xs)) (hv : xs[j]? = some v) (q : Q v H) : tIx K (j : Int) σ H Q := ⟨.ref a, h0, a, _, (j : Int), v, rfl, rfl, SqL.of ha, atI_nat hv, q⟩
theorem i00_ok {K : PySem.W.Frag} {σ : L2.St} {a g : Addr} {c d : V} {x : Int} {xs : List Int} {Q : VK} (h0 : σ[0]? = some (some (.ref a))) (ha : H a = some (.lst [.ref g, c, d])) (hg : H g = some (.lst ((x :: xs).map V.int))) (q : Q (.int x) H) : tI00 K σ H Q :=
  i0_ok h0 ha ⟨g, _, 0, .int x, rfl, rfl, SqL.of hg, atI_nat (j := 0) rfl, q⟩
theorem dpAll_ints {K : PySem.W.Frag} : ∀ xs : List Int, DpAll K H (xs.map V.int) (xs.map PyData.int)
  | [] => .nil
  | x :: xs => .cons (.int x) (dpAll_ints xs)
theorem lay_ints : ∀ xs : List Int, PyData.canLayAll0 (xs.map PyData.int) = true
  | [] => rfl
  | x :: xs => by show (PyData.canLay0 (.int x) && PyData.canLayAll0 (xs.map PyData.int)) = true; rw [lay_ints xs]; rfl
theorem depth_ints : ∀ xs : List Int, PyData.depthAll (xs.map PyData.int) ≤ 1
  | [] => by decide
  | x :: xs => by
    have h := depth_ints xs
    show PyData.depthAll (.int x :: xs.map PyData.int) ≤ 1
    unfold PyData.depthAll
    have e : PyData.depth (.int x) ≤ 1 := by unfold PyData.depth; decide
    exact Nat.max_le.mpr ⟨e, h⟩
theorem shaped_ints (xs : List Int) : SeqAt.shaped (.list (xs.map PyData.int)) = true := by
  unfold SeqAt.shaped
  rw [Bool.and_eq_true]
  refine ⟨lay_ints xs, decide_eq_true ?_⟩
  have h := depth_ints xs
  unfold PyData.depth
  omega
theorem ne_ok {K : PySem.W.Frag} {σ : L2.St} {a g : Addr} {c d : V} {xs : List Int} {Q : Bool → Hp → Prop} (h0 : σ[0]? = some (some (.ref a))) (ha : H a = some (.lst [.ref g, c, d])) (hg : H g = some (.lst (xs.map V.int))) (q : ∀ p, H p = none → Q (!xs.isEmpty) (upd H p (.lst []))) : tNe K σ H Q :=
  i0_ok h0 ha ⟨Nat.zero_le _, fun p hp => ⟨.list (xs.map PyData.int), .list [], .lst (SqL.of (by rw [upd_ne (ne_of_none hg hp)]; exact hg)) (dpAll_ints xs), .lst (SqL.of upd_same) .nil, shaped_ints xs, shaped_ints [], !xs.isEmpty, (by cases xs <;> rfl), q p hp⟩⟩
theorem pinv_tail {s t x : Int} {xs : List Int} (p : PInv s t (x :: xs)) : PInv s t xs := ⟨p.s0, p.s1, p.t0, by have := p.len; rw [List.length_cons] at this; omega, fun y hy => p.nn y (List.mem_cons_of_mem _ hy), fun y hy => p.sm y (List.mem_cons_of_mem _ hy)⟩
theorem ix0 (x : Int) (xs : List Int) : ixN ((x :: xs).map V.int).length 0 = some 0 := by
  unfold ixN
  rw [if_pos (by decide), if_pos (by rw [List.map_cons, List.length_cons]; omega)]; rfl
theorem sx0 (x : Int) (xs : List Int) : seqIndex? 0 ((x :: xs).map V.int).length = some 0 := by
  unfold seqIndex?
  simp
theorem pick_reading {K : PySem.W.Frag} {N : List Str} {vs : List V} {Q : VK} {E : XK} (hN : N.length = 7) (h : spOf mg sPick vs H Q E) : tPickAll K { nx := fun _ H' => Q .non H', rt := Q } (L2.start N vs) H := by
  obtain ⟨W, ds, P, w, r, ⟨n, rfl, hn, hbig, hP⟩, k⟩ := h
  cases r with
  | cons r1 r =>
  cases r with
  | cons r2 r =>
  cases r
  cases r2
  cases r1 with
  | @purse a g hu =>
  have hst : L2.start N [.ref a, .int n] = [some (.ref a), some (.int n), none, none, none, none, none] := by
    unfold L2.start
    rw [hN]; rfl
  rw [hst]
  -- what holds from turn to turn
  have hdiv : ∀ x : Int, CDivW x n := fun x => wide_div hn hbig (by decide) (by decide)
  refine ⟨fun m σ H1 => σ = [some (.ref a), some (.int n), none, none, none, none, none] ∧ WOk W H1 ∧ Ext W H W H1 ∧ ∃ s t xs, H1 a = some (.lst [.ref g, .int s, .int t]) ∧ H1 g = some (.lst (xs.map V.int)) ∧ PInv s t xs ∧ xs.length = m, ?_, ?_⟩
  · obtain ⟨s, t, xs, h1, h2, h3⟩ := (w.pu a g hu).here
    exact ⟨xs.length, rfl, w, Ext.refl _ _, s, t, xs, h1, h2, h3, rfl⟩
  rintro m σ H1 ⟨rfl, w1, e1, s, t, xs, ha, hg, pi, rfl⟩
  refine ne_ok (xs := xs) rfl ha hg fun p hp => ?_
  obtain ⟨w2, e2⟩ := new_beside (o := .lst []) w1 hp
  have ha2 : (upd H1 p (.lst [])) a = some (.lst [.ref g, .int s, .int t]) := by rw [upd_ne (ne_of_none ha hp)]; exact ha
  have hg2 : (upd H1 p (.lst [])) g = some (.lst (xs.map V.int)) := by rw [upd_ne (ne_of_none hg hp)]; exact hg
  generalize upd H1 p (.lst []) = H2 at w2 e2 ha2 hg2
  -- what follows the while
  have rest : tSeq (tP2 K) (tP3 K) { nx := fun _ H' => Q .non H', rt := Q } [some (.ref a), some (.int n), none, none, none, none, none] H2 := by
    refine ne_ok (xs := xs) rfl ha2 hg2 fun p hp => ?_
    obtain ⟨w3, e3⟩ := new_beside (o := .lst []) w2 hp
    have ha3 : (upd H2 p (.lst [])) a = some (.lst [.ref g, .int s, .int t]) := by rw [upd_ne (ne_of_none ha2 hp)]; exact ha2
    have hg3 : (upd H2 p (.lst [])) g = some (.lst (xs.map V.int)) := by rw [upd_ne (ne_of_none hg2 hp)]; exact hg2
    have ex := (e1.trans e2).trans e3
    generalize upd H2 p (.lst []) = H3 at w3 ex ha3 hg3
    cases xs with
    | cons x xs =>
      refine iteT2 ?_
      refine i00_ok rfl ha3 hg3 ⟨_, rfl, x, n, rfl, rfl, hn, ?_⟩
      refine i00_ok rfl ha3 hg3 ⟨_, rfl, x, n, rfl, rfl, hdiv x, ?_⟩
      refine i0_ok rfl ha3 ⟨g, _, 0, 0, rfl, rfl, hg3, ix0 _ _, ?_⟩
      have x0 : 0 ≤ x := pi.nn x (List.mem_cons_self ..)
      have xb : x < 10 ^ 120 := pi.sm x (List.mem_cons_self ..)
      have d0 : 0 ≤ x / n := Int.ediv_nonneg x0 (Int.le_of_lt hn)
      have d1 : x / n ≤ x := Int.ediv_le_self _ x0
      have p2 : PInv s t ((x / n) :: xs) := ⟨pi.s0, pi.s1, pi.t0, pi.len, fun y hy => by
        rcases List.mem_cons.mp hy with rfl | hy
        · exact d0
        · exact pi.nn y (List.mem_cons_of_mem _ hy), fun y hy => by
        rcases List.mem_cons.mp hy with rfl | hy
        · exact Int.lt_of_le_of_lt d1 xb
        · exact pi.sm y (List.mem_cons_of_mem _ hy)⟩
      obtain ⟨w4, e4⟩ := purse_g w3 hu ha3 p2
      refine ⟨_, rfl, k W _ (.int (x % n)) (.im (.int (x % n))) w4 (ex.trans e4) (Rel.int _) (hP _ (Int.emod_nonneg _ (by omega)) (Int.emod_lt_of_pos _ hn))⟩
    | nil =>
      refine iteF2 ?_
      refine ix_ok (j := 2) rfl ha3 rfl ⟨t, 1, rfl, rfl, ?_⟩
      refine ⟨.ref a, rfl, a, _, 2, 2, rfl, rfl, ha3, rfl, ?_⟩
      have p2 : PInv s (t + 1) [] := ⟨pi.s0, pi.s1, by have := pi.t0; omega, pi.len, pi.nn, pi.sm⟩
      obtain ⟨w4, e4⟩ := purse_a w3 hu hg3 p2
      have ha4 : (upd H3 a (.lst [.ref g, .int s, .int (t + 1)])) a = some (.lst [.ref g, .int s, .int (t + 1)]) := upd_same
      have e5 := ex.trans e4
      show tSeq _ _ _ _ (upd H3 a (.lst [.ref g, .int s, .int (t + 1)]))
      generalize upd H3 a (.lst [.ref g, .int s, .int (t + 1)]) = H4 at w4 ha4 e5
      refine ix_ok (j := 2) rfl ha4 rfl ?_
      refine ⟨by show 7 ≤ sizeLine; decide, fun q hq => ⟨_, rfl, t + 1, 7, rfl, rfl, (by show (0 : Int) < 7; decide), ?_⟩⟩
      obtain ⟨w6, e6⟩ := new_beside (o := .lst (pickPrimes.map V.int)) w4 hq
      have ha6 : (upd H4 q (.lst (pickPrimes.map V.int))) a = some (.lst [.ref g, .int s, .int (t + 1)]) := by rw [upd_ne (ne_of_none ha4 hq)]; exact ha4
      have hq6 : (upd H4 q (.lst (pickPrimes.map V.int))) q = some (.lst (pickPrimes.map V.int)) := upd_same
      have e7 := e5.trans e6
      show rIxL K (.ref q) (.int ((t + 1) % 7)) (upd H4 q (.lst (pickPrimes.map V.int))) _
      generalize upd H4 q (.lst (pickPrimes.map V.int)) = H5 at w6 ha6 hq6 e7
      have m0 : 0 ≤ (t + 1) % 7 := Int.emod_nonneg _ (by decide)
      have m1 : (t + 1) % 7 < 7 := Int.emod_lt_of_pos _ (by decide)
      obtain ⟨j, hj⟩ : ∃ j : Nat, (t + 1) % 7 = (j : Int) := ⟨((t + 1) % 7).toNat, by omega⟩
      have hj7 : j < 7 := by omega
      have gp : ∃ pr : Int, pickPrimes[j]? = some pr ∧ 0 < pr ∧ pr < 2147483648 := by
        have : j = 0 ∨ j = 1 ∨ j = 2 ∨ j = 3 ∨ j = 4 ∨ j = 5 ∨ j = 6 := by omega
        rcases this with rfl | rfl | rfl | rfl | rfl | rfl | rfl <;> exact ⟨_, rfl, by decide, by decide⟩
      obtain ⟨pr, hpr, pr0, pr1⟩ := gp
      refine ⟨q, _, _, .int pr, rfl, rfl, SqL.of hq6, by rw [hj]; exact atI_nat (by rw [List.getElem?_map, hpr]; rfl), ?_⟩
      refine ix_ok (j := 1) rfl ha6 rfl ⟨_, rfl, 65537, t + 1, rfl, rfl, .inl ⟨by decide, by decide⟩, s, 65537 * (t + 1), rfl, rfl, _, 2147483647, rfl, rfl, (by show (0 : Int) < 2147483647; decide), ?_⟩
      have o0 : 0 ≤ (s + 65537 * (t + 1)) % 2147483647 := Int.emod_nonneg _ (by decide)
      have o1 : (s + 65537 * (t + 1)) % 2147483647 < 2147483647 := Int.emod_lt_of_pos _ (by decide)
      show tSeq _ _ _ ((([some (.ref a), some (.int n), none, some (.int (t + 1)), some (.int pr), none, none] : L2.St)).set 5 (some (.int ((s + 65537 * (t + 1)) % 2147483647)))) H5
      generalize (s + 65537 * (t + 1)) % 2147483647 = on at o0 o1
      refine ⟨_, rfl, on, 5, rfl, rfl, ⟨by decide, by decide, by show on.natAbs < 18446744073709551616; omega⟩, _, 2147483647, rfl, rfl, (by show (0 : Int) < 2147483647; decide), _, rfl, 2, t + 1, rfl, rfl, .inl ⟨by decide, by decide⟩, _, 1, rfl, rfl, ?_⟩
      have p0 : 0 ≤ on ^ (5 : Int).toNat % 2147483647 := Int.emod_nonneg _ (by decide)
      have p1 : on ^ (5 : Int).toNat % 2147483647 < 2147483647 := Int.emod_lt_of_pos _ (by decide)
      refine ⟨_, _, rfl, rfl, .inl ⟨by omega, by omega⟩, ?_⟩
      generalize on ^ (5 : Int).toNat % 2147483647 * (2 * (t + 1) + 1) = mx
      refine ⟨_, rfl, ?_⟩
      refine ix_ok (j := 1) rfl ha6 rfl ⟨s, 2147483647, rfl, rfl, wide_div (b := 32) (by decide) (by decide) (by decide) (by decide), _, _, rfl, rfl, _, rfl, _, pr, rfl, rfl, pr0, _, 61, rfl, rfl, wide_div (b := 32) (by decide) (by decide) (by decide) (by decide), _, rfl, _, n, rfl, rfl, hn, ?_⟩
      exact k W _ _ (.im (.int _)) w6 e7 (Rel.int _) (hP _ (Int.emod_nonneg _ (by omega)) (Int.emod_lt_of_pos _ hn))
  cases xs with
  | cons x xs =>
    refine iteT2 ?_
    refine i00_ok rfl ha2 hg2 ⟨.int x, .int 0, .int x, .int 0, rfl, rfl, decide (x = 0), by rw [eqv_int], ?_⟩
    refine ite2 (fun hx => ?_) fun hx => rest
    refine ⟨fun σ' H' => ∃ m', m' < (x :: xs).length ∧ (σ' = [some (.ref a), some (.int n), none, none, none, none, none] ∧ WOk W H' ∧ Ext W H W H' ∧ ∃ s t xs, H' a = some (.lst [.ref g, .int s, .int t]) ∧ H' g = some (.lst (xs.map V.int)) ∧ PInv s t xs ∧ xs.length = m'), fun _ _ z => z, ?_⟩
    refine i0_ok rfl ha2 ⟨.inl ⟨rfl, _, SqL.of hg2⟩, g, _, 0, 0, .int x, rfl, rfl, hg2, by decide, by decide, sx0 _ _, rfl, ?_⟩
    obtain ⟨w4, e4⟩ := purse_g w2 hu ha2 (pinv_tail pi)
    exact ⟨xs.length, by rw [List.length_cons]; omega, rfl, w4, (e1.trans e2).trans e4, s, t, xs, by rw [upd_ne (w.pu a g hu).ne]; exact ha2, upd_same, pinv_tail pi, rfl⟩
  | nil =>
    refine iteF2 ?_
    exact rest
end
end DL
/-! The laws' purse made; a law as a whole. -/
namespace DL
open PySem PySem.Spec PyProof.Rows L2
section
variable {X : Cx} {mg : Gm} {W W' : Wd} {H H' : Hp} {v x y : V}
def spPurse (K : PySem.W.Frag) : Sp := fun vs H Q _ => ∃ (a0 : Addr) (ns : List Int), vs = [.ref a0] ∧ SqL K H a0 (ns.map V.int) ∧ ns.length ≤ 63 ∧ ∀ H' a g, Same H H' → H a = none → H g = none → PurseAt (fun _ => none) H' a g → Q (.ref a) H'
abbrev rGeI : R2 := rI0 fun i j => .bl (decide (j ≤ i))
abbrev rMulW : R2 := rI CMulW fun i j => .int (i * j)
def tAbsC : TE := tCB rAbs (tCons (tVar 3) tNil)
def tSeedE : TE := tOp rModI (tOp rAddI (tOp rAddI (tOp rMulI (tVar 1) (tInt 1000003)) (tOp rModI (tVar 3) (tInt 2305843009213693951))) (tInt 12345)) (tInt 2305843009213693951)
def tBig : TE := tOp rMulW (tOp rPowI (tInt 10) (tInt 60)) (tOp rPowI (tInt 10) (tInt 60))
def tPurseBody (K : PySem.W.Frag) : TS := tSeq (tAsg tSeedE (gName 1)) (tIfS (tTest (tOp rGeI tAbsC (tOp rPowI (tInt 10) (tInt 18)))) (tDrop (tBM K "list" rAppend (tVar 2) (tCons (tOp rModI tAbsC tBig) tNil))) tNext)
def tPurseAll (K : PySem.W.Frag) : TS := tSeq (tPar 1 2 (tCons (tInt 7) (tCons (tLst tNil) tNil))) (tSeq (tFor (iList K (tSl (rSlL K) (tVar 0) tNoPart (tPart (tInt 40)))) (gName 3) (tPurseBody K)) (tRet (tLst (tCons (tVar 2) (tCons (tVar 1) (tCons (tInt 0) tNil))))))
theorem cut40 (xs : List V) : cutV xs none (some 40) = xs.take 40 := by
  unfold cutV
  rw [HT.sIx_none, show HT.sIx xs.length xs.length (some 40) = min 40 xs.length from HT.sIx_nat xs.length xs.length 40]
  rw [List.drop_zero, Nat.sub_zero]
  apply List.ext_getElem?
  intro i
  rw [List.getElem?_take, List.getElem?_take]
  by_cases h : i < xs.length
  · by_cases h2 : i < 40
    · rw [if_pos (by omega), if_pos h2]
    · rw [if_neg (by omega), if_neg h2]
  · rw [List.getElem?_eq_none (by omega)]
    split <;> split <;> rfl
theorem purse_reading {K : PySem.W.Frag} {N : List Str} {vs : List V} {Q : VK} {E : XK} (hN : N.length = 4) (h : spPurse K vs H Q E) : tPurseAll K { nx := fun _ H' => Q .non H', rt := Q } (L2.start N vs) H := by
  obtain ⟨a0, ns, rfl, hS, hlen, k⟩ := h
  have hst : L2.start N [.ref a0] = [some (.ref a0), none, none, none] := by
    unfold L2.start
    rw [hN]; rfl
  rw [hst]
  refine ⟨Nat.zero_le _, fun g hg => ⟨.int 7, .ref g, rfl, ?_⟩⟩
  have s1 : Same H (upd H g (.lst [])) := fun b o e => by rw [upd_ne (ne_of_none e hg)]; exact e
  have g1 : (upd H g (.lst [])) g = some (.lst (([] : List Int).map V.int)) := upd_same
  show tSeq _ _ _ [some (.ref a0), some (.int 7), some (.ref g), none] (upd H g (.lst []))
  generalize upd H g (.lst []) = H1 at s1 g1
  refine ⟨.ref a0, rfl, 40, rfl, a0, ns.map V.int, rfl, s1.seq hS, fun c hc => ?_⟩
  rw [cut40]
  have s2 : Same H (upd H1 c (.lst ((ns.map V.int).take 40))) := fun b o e => by rw [upd_ne (ne_of_none (s1 b o e) hc)]; exact s1 b o e
  have ngc : g ≠ c := ne_of_none g1 hc
  have g2 : (upd H1 c (.lst ((ns.map V.int).take 40))) g = some (.lst (([] : List Int).map V.int)) := by rw [upd_ne ngc]; exact g1
  have c2 : (upd H1 c (.lst ((ns.map V.int).take 40))) c = some (.lst ((ns.map V.int).take 40)) := upd_same
  generalize upd H1 c (.lst ((ns.map V.int).take 40)) = H2 at s2 g2 c2
  refine ⟨c, rfl, ⟨_, SqL.of c2⟩, ?_⟩
  have hl40 : ((ns.map V.int).take 40).length ≤ 40 := by rw [List.length_take]; omega
  refine for_list (xs := (ns.map V.int).take 40) (fun i σ H3 => ∃ (s : Int) (gs : List Int) (y : Option V), σ = [some (.ref a0), some (.int s), some (.ref g), y] ∧ Same H H3 ∧ H3 g = some (.lst (gs.map V.int)) ∧ H3 c = some (.lst ((ns.map V.int).take 40)) ∧ 0 ≤ s ∧ s < 2305843009213693951 ∧ gs.length ≤ i ∧ (∀ x ∈ gs, 0 ≤ x) ∧ ∀ x ∈ gs, x < 10 ^ 120)
    ⟨7, [], none, rfl, s2, g2, c2, by decide, by decide, Nat.le_refl _, fun x hx => (by cases hx), fun x hx => (by cases hx)⟩ (fun i σ H3 _ ⟨_, _, _, _, _, _, hc3, _⟩ => SqL.of hc3) ?_ ?_
  · rintro i x σ H3 hx ⟨s, gs, y, rfl, s3, g3, c3, b0, b1, b2, b3, b4⟩
    have hi : i < 40 := by have := (List.getElem?_eq_some_iff.mp hx).1; omega
    rw [List.getElem?_take, if_pos hi, List.getElem?_map] at hx
    cases en : ns[i]? with
    | none => rw [en] at hx; cases hx
    | some n =>
    rw [en] at hx
    cases hx
    refine ⟨.int s, rfl, s, 1000003, rfl, rfl, .inr ⟨by decide, by decide⟩, .int n, rfl, n, 2305843009213693951, rfl, rfl, (by show (0 : Int) < 2305843009213693951; decide), _, _, rfl, rfl, _, 12345, rfl, rfl, _, 2305843009213693951, rfl, rfl, (by show (0 : Int) < 2305843009213693951; decide), ?_⟩
    have m0 : 0 ≤ (s * 1000003 + n % 2305843009213693951 + 12345) % 2305843009213693951 := Int.emod_nonneg _ (by decide)
    have m1 : (s * 1000003 + n % 2305843009213693951 + 12345) % 2305843009213693951 < 2305843009213693951 := Int.emod_lt_of_pos _ (by decide)
    revert m0 m1
    dsimp only
    generalize (s * 1000003 + n % 2305843009213693951 + 12345) % 2305843009213693951 = s'
    intro m0 m1
    unfold gName
    refine ⟨.int n, rfl, n, rfl, 10, 18, rfl, rfl, ⟨by decide, by decide, by decide⟩, _, _, rfl, rfl, _, rfl, ?_⟩
    refine ite2 (fun _ => ?_) fun _ => ⟨s', gs, some (.int n), rfl, s3, g3, c3, m0, m1, by omega, b3, b4⟩
    refine ⟨.ref g, rfl, .inl ⟨rfl, _, SqL.of g3⟩, .int n, rfl, n, rfl, 10, 60, rfl, rfl, ⟨by decide, by decide, by decide⟩, 10, 60, rfl, rfl, ⟨by decide, by decide, by decide⟩, _, _, rfl, rfl, wide_mul (a := 200) (b := 200) (by decide) (by decide) (by decide) (by decide) (by decide), _, _, rfl, rfl, (by show (0 : Int) < 10 ^ (60 : Int).toNat * 10 ^ (60 : Int).toNat; decide), ?_⟩
    refine ⟨g, _, _, rfl, rfl, g3, by rw [List.length_map]; exact Nat.lt_of_le_of_lt (show gs.length ≤ 100 by omega) (by decide), ?_⟩
    have r0 : 0 ≤ (if n < 0 then -n else n) % (10 ^ (60 : Int).toNat * 10 ^ (60 : Int).toNat) := Int.emod_nonneg _ (by decide)
    have r1 : (if n < 0 then -n else n) % (10 ^ (60 : Int).toNat * 10 ^ (60 : Int).toNat) < 10 ^ 120 := Int.lt_of_lt_of_le (Int.emod_lt_of_pos _ (by decide)) (by decide)
    dsimp only
    generalize (if n < 0 then -n else n) % (10 ^ (60 : Int).toNat * 10 ^ (60 : Int).toNat) = z at r0 r1 ⊢
    refine ⟨s', gs ++ [z], some (.int n), rfl, fun b o e => ?_, ?_, ?_, m0, m1, by rw [List.length_append, List.length_singleton]; omega, fun x hx => ?_, fun x hx => ?_⟩
    · rw [upd_ne (ne_of_none e hg)]; exact s3 b o e
    · rw [upd_same, List.map_append]; rfl
    · rw [upd_ne (Ne.symm ngc)]; exact c3
    · rcases List.mem_append.mp hx with hx | hx
      · exact b3 x hx
      · rw [List.mem_singleton.mp hx]; exact r0
    · rcases List.mem_append.mp hx with hx | hx
      · exact b4 x hx
      · rw [List.mem_singleton.mp hx]; exact r1
  · rintro σ H3 ⟨s, gs, y, rfl, s3, g3, c3, b0, b1, b2, b3, b4⟩
    refine ⟨.ref g, rfl, .int s, rfl, by show 3 ≤ sizeLine; decide, fun a ha => ?_⟩
    have nga : g ≠ a := ne_of_none g3 ha
    refine k _ a g (fun b o e => by rw [upd_ne (ne_of_none (s3 b o e) ha)]; exact s3 b o e) (s3.free ha) hg ⟨rfl, rfl, Ne.symm nga, s, 0, gs, upd_same, by rw [upd_ne nga]; exact g3, b0, b1, by decide, by omega, b3, b4⟩
end

/-! ### a law as a whole: the purse, then the rest over whole data -/
def spLaw (K : PySem.W.Frag) : Sp := fun vs H Q _ => ∃ (a : Addr) (ns : List Int), vs = [.ref a] ∧ SqL K H a (ns.map V.int) ∧ ns.length ≤ 63 ∧ ∀ H', Q (.bl true) H'
def tPurseCall (K : PySem.W.Frag) : TS := tAsg (tCall (spPurse K) [] E0 (tCons (tVar 0) tNil)) (gName 1)
/-- the slots behind the purse's making -/
def lawRho (N : List Str) (ns : List Int) : Rh := some (.im (.scr (ns.map D.int))) :: some (.im .purse) :: List.replicate (N.length - 2) none
section
variable {P : Program} {w : World} {K : PySem.W.Frag} {mg : Str → Option Value} {base : Heap}
theorem ok_law {x qual : Str} {st : Stmt} {f : Addr} {fd : FuncData} {N : List Str} {k : Nat} {t : DTS} (F : FunD K x qual (defArgs st) (defBody st) (defScope st) [] [] f fd) (sc : FnScope N ["_law_script"] (defScope st)) (hN : 2 ≤ N.length)
    (body : ∀ (cdv : Value) (A : Around) (outer : List Env) (s : Shared) (H : Hp) (E : XK), Room k (A.deeper (envOfC qual (defScope st) s.heap.objs.size f cdv)) → ∃ t', PSs (cxOf CX0 P w K mg base N qual (defScope st) f cdv A outer s H E).nox (defBody st) (tSeq (tPurseCall K) t') ∧ SS ⟨mg, K⟩ t' t)
    (ht : ∀ ns : List Int, ns.length ≤ 63 → runD t (fun r => r = .im (.bl true)) (lawRho N ns)) : FnOk P w K mg base CX0 (k + 1) f fd ["_law_script"] (spLaw K) := by
  refine F.ok sc (fun vs H Q E h => ?_) (fun cdv A outer s H vs Q E hr h => ?_)
  · obtain ⟨a, ns, rfl, _⟩ := h
    rfl
  · obtain ⟨a0, ns, rfl, hS, hlen, q⟩ := h
    obtain ⟨t', h1, h2⟩ := body cdv A outer s H E hr
    refine ⟨_, h1.nox, ?_⟩
    refine ⟨.ref a0, ?_, a0, ns, rfl, hS, hlen, fun H' a g sm ha hg hp => ?_⟩
    · unfold L2.start; rfl
    · let W : Wd := ⟨fun b => if b = a0 then H b else none, some (a, g)⟩
      have na : a ≠ a0 ∨ H a0 = none := by
        by_cases e : a = a0
        · subst e; exact .inr ha
        · exact .inl e
      have ng : g ≠ a0 ∨ H a0 = none := by
        by_cases e : g = a0
        · subst e; exact .inr hg
        · exact .inl e
      have wk : WOk W H' := ⟨fun b o e => by
        have e2 : (if b = a0 then H b else none) = some o := e
        split at e2
        · exact sm b o e2
        · exact (nomatch e2), fun x y e => by
        cases e
        refine ⟨?_, ?_, hp.ne, hp.here⟩
        · show (if a = a0 then H a else none) = none
          split
          · exact ha
          · rfl
        · show (if g = a0 then H g else none) = none
          split
          · exact hg
          · rfl⟩
      have I : EnvOk ⟨mg, K⟩ W H' W H' ((L2.start N [.ref a0]).set 1 (some (.ref a))) (lawRho N ns) := by
        have e1 : (L2.start N [.ref a0]).set 1 (some (.ref a)) = some (.ref a0) :: some (.ref a) :: List.replicate (N.length - 2) none := by
          unfold L2.start
          obtain ⟨m, hm⟩ : ∃ m, N.length = m + 2 := ⟨N.length - 2, by omega⟩
          rw [hm]; rfl
        rw [e1]
        refine ⟨wk, Ext.refl _ _, by unfold lawRho; simp, fun i d q => ?_, fun i xs q => ?_, fun i j xs ys b hi => ?_⟩
        · unfold lawRho at q
          cases i with
          | zero =>
            cases q
            refine ⟨.ref a0, rfl, .scr ?_ (relL_ints ns)⟩
            rcases hS with (h | ⟨o, h⟩) | h
            · exact .inl (.inl (by show (if a0 = a0 then H a0 else none) = _; rw [if_pos rfl]; exact h))
            · exact .inl (.inr ⟨o, by show (if a0 = a0 then H a0 else none) = _; rw [if_pos rfl]; exact h⟩)
            · exact .inr h
          | succ i =>
            cases i with
            | zero => cases q; exact ⟨.ref a, rfl, .purse rfl⟩
            | succ i =>
              rw [List.getElem?_cons_succ, List.getElem?_cons_succ, List.getElem?_replicate] at q
              split at q <;> cases q
        · unfold lawRho at q
          cases i with
          | zero => cases q
          | succ i =>
            cases i with
            | zero => cases q
            | succ i =>
              rw [List.getElem?_cons_succ, List.getElem?_cons_succ, List.getElem?_replicate] at q
              split at q <;> cases q
        · unfold lawRho at hi
          cases i with
          | zero => cases hi
          | succ i =>
            cases i with
            | zero => cases hi
            | succ i =>
              rw [List.getElem?_cons_succ, List.getElem?_cons_succ, List.getElem?_replicate] at hi
              split at hi <;> cases hi
      refine h2 W H' W H' _ _ (fin fun r => r = .im (.bl true)) _ I (ht ns hlen) ⟨fun W' H' σ ρ _ I p => ?_, fun _ _ _ _ _ _ p => p.elim, fun _ _ _ _ _ _ p => p.elim, fun W' H' v r' w' e f p => ?_⟩
      · cases p
      · subst p
        have f2 : Rel ⟨mg, K⟩ W' v (.bl true) := f
        cases f2
        exact q H'

theorem ok_purse {x qual : Str} {st : Stmt} {f : Addr} {fd : FuncData} {N : List Str} {k : Nat} (F : FunD K x qual (defArgs st) (defBody st) (defScope st) [] [] f fd) (sc : FnScope N ["_law_script"] (defScope st)) (hN : N.length = 4)
    (body : ∀ (cdv : Value) (A : Around) (outer : List Env) (s : Shared) (H : Hp) (E : XK), Room k (A.deeper (envOfC qual (defScope st) s.heap.objs.size f cdv)) → PSs (cxOf CX0 P w K mg base N qual (defScope st) f cdv A outer s H E).nox (defBody st) (tPurseAll K)) : FnOk P w K mg base CX0 (k + 1) f fd ["_law_script"] (spPurse K) :=
  F.ok sc (fun vs H Q E h => by obtain ⟨a, ns, rfl, _⟩ := h; rfl) (fun cdv A outer s H vs Q E hr h => ⟨_, (body cdv A outer s H E hr).nox, purse_reading hN h⟩)
theorem ok_pick {x qual : Str} {st : Stmt} {f : Addr} {fd : FuncData} {N : List Str} {k : Nat} (F : FunD K x qual (defArgs st) (defBody st) (defScope st) [] [] f fd) (sc : FnScope N ["_law_purse_here", "_law_many"] (defScope st)) (hN : N.length = 7)
    (body : ∀ (cdv : Value) (A : Around) (outer : List Env) (s : Shared) (H : Hp) (E : XK), Room k (A.deeper (envOfC qual (defScope st) s.heap.objs.size f cdv)) → PSs (cxOf CX0 P w K mg base N qual (defScope st) f cdv A outer s H E).nox (defBody st) (tPickAll K)) : FnOk P w K mg base CX0 (k + 1) f fd ["_law_purse_here", "_law_many"] (spOf ⟨mg, K⟩ sPick) :=
  F.ok sc (fun vs H Q E h => by
    obtain ⟨W, ds, PP, wk, r, ⟨n, rfl, _⟩, _⟩ := h
    exact r.length) (fun cdv A outer s H vs Q E hr h => ⟨_, (body cdv A outer s H E hr).nox, pick_reading hN h⟩)
end
end DL
/-! Short names. -/
namespace DL
open PySem PySem.Spec PyProof.Rows L2
abbrev oSub := oI0 fun i j => .int (i - j)
abbrev oMod := oI (fun _ j => 0 < j) fun i j => .int (i % j)
abbrev oDiv := oI CDivW fun i j => .int (i / j)
abbrev oPow := oI CPow fun i j => .int (i ^ j.toNat)
abbrev oXor := oI0 fun i j => .int (Builtin.bitXor i j)
abbrev oLt := oI0 fun i j => .bl (decide (i < j))
abbrev oLe := oI0 fun i j => .bl (decide (i ≤ j))
abbrev oGt := oI0 fun i j => .bl (decide (j < i))
abbrev oGe := oI0 fun i j => .bl (decide (j ≤ i))
abbrev oAll := oBs fun bs => bs.all id
abbrev oAny := oBs fun bs => bs.any id
abbrev oMaxL := oMax fun y m => y ≤ m
abbrev oMinL := oMax fun y m => m ≤ y
abbrev oMax2 := oI2 fun i j => if j > i then j else i
abbrev oMin2 := oI2 fun i j => if j < i then j else i
abbrev sp__law_pick := sPick

/-! ### comprehensions, by what each turn gives -/
def lcTurn (g : DTG) (tt : DTT) (te : DTE) (ρw : Rh) (d : D) (C : Option D → Prop) : Prop := g (.im d) ρw fun ρ2 => tt ρ2 fun b ρ3 => sw b (te ρ3 fun r ρ4 => frz r ρ4 = ρ2 ∧ C (some r.d)) (ρ3 = ρ2 ∧ C none)
theorem lcL_rel {g : DTG} {tt : DTT} {te : DTE} {ρw : Rh} {S : D → Option D → Prop} : ∀ (ds acc : List D) (P : List D → Prop), acc.length + ds.length ≤ 10000000 → (∀ d, d ∈ ds → ∀ C : Option D → Prop, (∀ o, S d o → C o) → lcTurn g tt te ρw d C) →
    (∀ os : List (Option D), Paired S ds os → P (acc ++ os.filterMap id)) → dLcL g tt te ρw ds acc P
  | [], acc, P, _, _, h => by
    have q := h [] .nil
    rw [List.filterMap_nil, List.append_nil] at q
    exact q
  | d :: ds, acc, P, hl, ht, h => by
    have hz : acc.length < sizeLine := by
      rw [List.length_cons] at hl
      exact Nat.lt_of_le_of_lt (show acc.length ≤ 10000000 by omega) (by decide)
    have h1 := ht d (List.mem_cons_self ..) (fun o => match o with
      | some y => acc.length < sizeLine ∧ dLcL g tt te ρw ds (acc ++ [y]) P
      | none => dLcL g tt te ρw ds acc P) (fun o ho => by
        cases o with
        | some y =>
          refine ⟨hz, lcL_rel ds (acc ++ [y]) P (by rw [List.length_append, List.length_singleton]; rw [List.length_cons] at hl; omega) (fun e he => ht e (List.mem_cons_of_mem _ he)) fun os hp => ?_⟩
          have q := h (some y :: os) (.cons ho hp)
          rw [List.append_assoc]
          exact q
        | none =>
          refine lcL_rel ds acc P (by rw [List.length_cons] at hl; omega) (fun e he => ht e (List.mem_cons_of_mem _ he)) fun os hp => ?_
          exact h (none :: os) (.cons ho hp))
    exact h1
theorem lcL_fn {g : DTG} {tt : DTT} {te : DTE} {ρw : Rh} (f : D → Option D) (ds acc : List D) (P : List D → Prop) (hl : acc.length + ds.length ≤ 10000000) (ht : ∀ d, d ∈ ds → ∀ C : Option D → Prop, C (f d) → lcTurn g tt te ρw d C) (h : P (acc ++ ds.filterMap f)) : dLcL g tt te ρw ds acc P :=
  lcL_rel (S := fun d o => o = f d) ds acc P hl (fun d hd C hC => ht d hd C (hC _ rfl)) fun os hp => by
    have e : os.filterMap id = ds.filterMap f := by
      clear hl ht h
      induction hp with
      | nil => rfl
      | @cons a b as bs h1 h2 ih =>
        rw [h1]
        cases q : f a with
        | none => rw [List.filterMap_cons_none (by exact rfl), List.filterMap_cons_none q]; exact ih
        | some y => rw [List.filterMap_cons_some (by exact rfl), List.filterMap_cons_some q, ih]
    rw [e]; exact h
/-- a comprehension over ints -/
theorem lcL_ints {g : DTG} {tt : DTT} {te : DTE} {ρw : Rh} (f : Int → Option D) (xs : List Int) (acc : List D) (P : List D → Prop) (hl : acc.length + xs.length ≤ 10000000) (ht : ∀ x, x ∈ xs → ∀ C : Option D → Prop, C (f x) → lcTurn g tt te ρw (.int x) C) (h : P (acc ++ xs.filterMap f)) : dLcL g tt te ρw (xs.map D.int) acc P := by
  refine lcL_fn (fun d => match d with
    | .int i => f i
    | _ => none) _ acc P (by rw [List.length_map]; exact hl) (fun d hd C hC => ?_) ?_
  · obtain ⟨x, hx, rfl⟩ := List.mem_map.mp hd
    exact ht x hx C hC
  · rw [List.filterMap_map]; exact h
end DL
namespace LW
open PySem PySem.Spec PyProof.Rows L2 DL
def top (i : Nat) : Stmt := PySem.Challenge.pw_roundwords_k29_weights.main.body.getD i (.Pass ⟨0, 0, 0, 0⟩)
abbrev FnP (K : PySem.W.Frag) (x : Str) (st : Stmt) (f : Addr) (fd : FuncData) : Prop := FunD K x x (defArgs st) (defBody st) (defScope st) [] [] f fd

abbrev s_weight : Stmt := top 1
def nz (xs : List Int) : Int := ((xs.filter fun x => decide (x ≠ 0)).length : Int)
def sp_weight : DSp := fun ds P => ∃ xs : List Int, ds = [.tup (xs.map D.int)] ∧ xs.length ≤ 1000000 ∧ P (.im (.int (nz xs)))
theorem len_weight {ds P} (h : sp_weight ds P) : ds.length = 1 := by obtain ⟨xs, rfl, _⟩ := h; rfl
theorem nz_append (xs ys : List Int) : nz (xs ++ ys) = nz xs + nz ys := by unfold nz; rw [List.filter_append, List.length_append]; omega
theorem nz_reverse (xs : List Int) : nz xs.reverse = nz xs := by unfold nz; rw [List.filter_reverse, List.length_reverse]
theorem nz_one (x : Int) : nz [x] = if !decide (x = 0) then 1 else 0 := by
  unfold nz
  by_cases h : x = 0
  · subst h; rfl
  · rw [decide_eq_false h]; simp [h]
theorem fm_nz (xs : List Int) : (xs.filterMap fun x => if x ≠ 0 then some (D.int x) else none).length = (xs.filter fun x => decide (x ≠ 0)).length := by
  induction xs with
  | nil => rfl
  | cons x xs ih =>
    by_cases h : x = 0
    · subst h; simpa using ih
    · simp [h] at ih ⊢; exact ih
def t_weight : DTS := (dRet (dCB oLen (dConsH (dLc (dSeqI (dVar 0)) (gNm 1) (dTest (dOp (oNe) (dVar 1) (dC (.int 0)))) (dVar 1) [1]) dNil)))
theorem pure_weight (ds : List D) (P : R → Prop) (h : sp_weight ds P) : runD t_weight P (startD ["word", "one"] ds) := by
  obtain ⟨xs, rfl, hl, h⟩ := h
  refine ⟨rfl, lcL_ints (fun x => if x ≠ 0 then some (.int x) else none) xs [] _ (by show 0 + xs.length ≤ 10000000; omega) (fun x hx C hC => ?_) ?_⟩
  · refine ⟨fun h => ?_, fun h => ?_⟩
    · have h0 : x ≠ 0 := by simpa using h
      rw [if_pos h0] at hC
      exact ⟨rfl, hC⟩
    · have h0 : x = 0 := by simpa using h
      rw [if_neg (by simpa using h0)] at hC
      exact ⟨rfl, hC⟩
  · show P (.im (.int ((xs.filterMap fun x => if x ≠ 0 then some (D.int x) else none).length : Int)))
    rw [fm_nz]; exact h
abbrev s__law_purse : Stmt := top 3
abbrev s__law_pick : Stmt := top 4
abbrev s_law : Stmt := top 5
def t_law : DTS := (dSeq (dFor (dRng1 (dConsH (dC (.int 12)) dNil)) (gNm 2) (dSeq (dPar 3 4 (dCall sp__law_pick (dCons (dVar 1) (dCons (dC (.int 4)) dNil))) (dCall sp__law_pick (dCons (dVar 1) (dCons (dC (.int 64)) dNil))))
    (dSeq (dPar 5 6 (dLst dNil) (dC (.int 0)))
    (dSeq (dFor (dRng1 (dConsH (dVar 4) dNil)) (gNm 7) (dSeq (dAsg (dLst (dCons (dOp oAdd (dC (.int 1)) (dCall sp__law_pick (dCons (dVar 1) (dCons (dC (.int 63)) dNil)))) (dCons (dC (.int 0)) (dCons (dCall sp__law_pick (dCons (dVar 1) (dCons (dC (.int 2)) dNil))) dNil)))) (gNm 8))
    (dSeq (dAppend 8 (dOp oAdd (dC (.int 1)) (dCall sp__law_pick (dCons (dVar 1) (dCons (dC (.int 63)) dNil)))))
    (dSeq (dAsg (dOp oIx (dVar 8) (dVar 3)) (gNm 9))
    (dSeq (dIf (dAnd (dTest (dOp (oEq) (dVar 3) (dC (.int 3)))) (dTest (dOp (oGt) (dOp oMod (dVar 7) (dC (.int 7))) (dC (.int 0))))) (dAsg (dC (.int 0)) (gNm 9)) dNext)
    (dSeq (dAsg (dOp oAdd (dVar 6) (dCB oIntOf (dConsH (dOp (oNe) (dVar 9) (dC (.int 0))) dNil))) (gNm 6))
    (dAppend 5 (dVar 9))))))))
    (dSeq (dAsg (dCall sp_weight (dCons (dCB oTupOf (dConsH (dVar 5) dNil)) dNil)) (gNm 10))
    (dSeq (dIf (dOr (dNot (dTru (dIsi "int" (dVar 10)))) (dOr (dTru (dIsi "bool" (dVar 10))) (dTest (dOp (oNe) (dVar 10) (dVar 6))))) (dRet (dC (.bl false))) dNext)
    (dIf (dOr (dTest (dOp (oNe) (dCall sp_weight (dCons (dCB oTupOf (dConsH (dRevL (dVar 5)) dNil)) dNil)) (dVar 6))) (dTest (dOp (oNe) (dCall sp_weight (dCons (dCB oTupOf (dConsH (dVar 5) dNil)) dNil)) (dVar 6)))) (dRet (dC (.bl false))) dNext)))))))
    (dRet (dOp (oEq) (dCall sp_weight (dCons (dTup dNil) dNil)) (dC (.int 0)))))
theorem atI4 (a b c d : Int) (w : Int) (h0 : 0 ≤ w) (h1 : w < 4) : ∃ x : Int, atI [D.int a, D.int b, D.int c, D.int d] w = some (.int x) := by
  have : w = 0 ∨ w = 1 ∨ w = 2 ∨ w = 3 := by omega
  rcases this with rfl | rfl | rfl | rfl <;> exact ⟨_, rfl⟩
theorem weight_tup {xs : List Int} {P : R → Prop} (h : xs.length ≤ 1000000) (k : P (.im (.int (nz xs)))) : sp_weight [.tup (xs.map D.int)] P := ⟨xs, rfl, h, k⟩
theorem pure_law (ns : List Int) (hn : ns.length ≤ 63) : runD t_law (fun r => r = .im (.bl true)) (lawRho ["_law_script", "_law_purse_here", "_law_turn", "_law_way", "_law_many", "_law_word", "_law_due", "_law_k", "_law_things", "_law_thing", "_law_found"] ns) := by
  refine ⟨⟨by decide, by decide⟩, fun _ ρ => ∃ a2 a3 a4 a5 a6 a7 a8 a9 a10, ρ = [some (.im (.scr (ns.map D.int))), some (.im .purse), a2, a3, a4, a5, a6, a7, a8, a9, a10], ⟨_, _, _, _, _, _, _, _, _, rfl⟩, ?_, ?_⟩
  · rintro i d _ hd ⟨a2, a3, a4, a5, a6, a7, a8, a9, a10, rfl⟩
    refine ⟨4, rfl, by decide, by decide, fun way hw0 hw1 => ?_⟩
    refine ⟨64, rfl, by decide, by decide, fun many hm0 hm1 => ?_⟩
    refine ⟨Nat.zero_le _, ⟨by omega, by omega⟩, fun j ρ => ∃ (ws : List Int) (b7 b8 b9 : Option Sl), ws.length = j ∧ ρ = [some (.im (.scr (ns.map D.int))), some (.im .purse), some (.im d), some (.im (.int way)), some (.im (.int many)), some (.ow (ws.map D.int)), some (.im (.int (nz ws))), b7, b8, b9, a10], ⟨[], _, _, _, rfl, rfl⟩, ?_, ?_⟩
    · rintro j dk _ hk ⟨ws, b7, b8, b9, hl, rfl⟩
      obtain ⟨hj, rfl⟩ := rngD_get hk
      have hj2 : (j : Int) < many := by omega
      refine ⟨_, rfl, by decide, by decide, fun r1 h10 h11 => ?_⟩
      refine ⟨_, rfl, by decide, by decide, fun r2 h20 h21 => ?_⟩
      refine ⟨by show 3 ≤ sizeLine; decide, ?_⟩
      refine ⟨_, rfl, by decide, by decide, fun r3 h30 h31 => ?_⟩
      refine ⟨by show 3 < sizeLine; decide, ?_⟩
      obtain ⟨x, hx⟩ := atI4 (1 + r1) 0 r2 (1 + r3) way hw0 hw1
      refine ⟨_, hx, ?_⟩
      have rest : ∀ x : Int, (∃ (ws' : List Int) (b7 b8 b9 : Option Sl), ws'.length = j + 1 ∧ [some (Sl.im (.scr (ns.map D.int))), some (.im .purse), some (.im d), some (.im (.int way)), some (.im (.int many)), some (.ow (ws.map D.int ++ [.int x])), some (.im (.int (nz ws + if !decide (x = 0) then 1 else 0))), some (.im (.int (0 + (j : Int)))), some (.ow [.int (1 + r1), .int 0, .int r2, .int (1 + r3)]), some (.im (.int x)), a10] = [some (.im (.scr (ns.map D.int))), some (.im .purse), some (.im d), some (.im (.int way)), some (.im (.int many)), some (.ow (ws'.map D.int)), some (.im (.int (nz ws'))), b7, b8, b9, a10]) := fun x =>
        ⟨ws ++ [x], _, _, _, by rw [List.length_append, List.length_singleton, hl], by rw [List.map_append, nz_append, nz_one]; rfl⟩
      have hz : (ws.map D.int).length < sizeLine := by rw [List.length_map]; exact Nat.lt_of_le_of_lt (show ws.length ≤ 64 by omega) (by decide)
      refine ⟨fun _ => ?_, fun _ => ?_⟩
      · refine ⟨by show (0 : Int) < 7; decide, ?_⟩
        refine ⟨fun _ => ?_, fun _ => ?_⟩
        · exact ⟨hz, rest 0⟩
        · exact ⟨hz, rest x⟩
      · refine ⟨fun h => (nomatch h), fun _ => ?_⟩
        exact ⟨hz, rest x⟩
    · rintro _ ⟨ws, b7, b8, b9, hl, rfl⟩
      have h6 : ws.length ≤ 1000000 := by rw [hl, rngD_len]; omega
      refine ⟨ws, rfl, h6, ?_⟩
      refine ⟨fun h => absurd h (by decide), fun _ => ⟨fun h => absurd h (by decide), fun _ => ?_⟩⟩
      refine ⟨fun h => absurd h (by simp), fun _ => ?_⟩
      refine ⟨ws.reverse, by rw [List.map_reverse]; rfl, by rw [List.length_reverse]; exact h6, ?_⟩
      refine ⟨fun h => absurd h (by rw [nz_reverse]; simp), fun _ => ?_⟩
      refine ⟨ws, rfl, h6, ?_⟩
      refine ⟨fun h => absurd h (by simp), fun _ => ?_⟩
      exact ⟨_, _, _, _, _, _, _, _, _, rfl⟩
  · rintro _ ⟨a2, a3, a4, a5, a6, a7, a8, a9, a10, rfl⟩
    refine ⟨Nat.zero_le _, ?_⟩
    refine ⟨[], rfl, Nat.zero_le _, ?_⟩
    rfl

section
variable {P : Program} {w : World} {K : PySem.W.Frag} {mg : Str → Option Value} {base : Heap}
theorem sc_weight : FnScope ["word", "one"] ["word"] (defScope s_weight) := ⟨rfl, rfl, rfl, by decide +kernel, rfl, by decide +kernel, by decide +kernel⟩
set_option maxHeartbeats 4000000 in
theorem ok_weight {f : Addr} {fd : FuncData} (F : FnP K "weight" s_weight f fd) (z_len : mg "len" = none) : FnOk P w K mg base CX0 1 f fd ["word"] (spOf ⟨mg, K⟩ sp_weight) :=
  DL.ok_def (t := t_weight) F sc_weight (fun ds P h => len_weight h) (fun cdv A outer s H E hr => ⟨_, (dss_one (ds_ret (de_callB (dc_len (K := K)) (by rfl) z_len boot_len (dh_cons (de_lc (own := [("one", 1)]) rfl sc_weight.nd (di_seq (K := K) (de_var 0)) (blkOk_by (N := ["word", "one"]) (sc := defScope s_weight) (by decide +kernel)) (fun _ _ _ _ _ => (pg_name (i := 1) sc_weight.nd rfl (Or.inl rfl))) (fun _ => (gc_name (by decide))) (fun _ _ _ _ _ => dts_one (dt_cmp (do_ne hr.units (K := K)) (de_var 1) de_int (nomark _))) (fun _ _ _ _ _ => (de_var 1))) dh_nil))))⟩) pure_weight
theorem sc__law_purse : FnScope ["_law_script", "_law_seed", "_law_great", "_law_cell"] ["_law_script"] (defScope s__law_purse) := ⟨rfl, rfl, rfl, by decide +kernel, rfl, by decide +kernel, by decide +kernel⟩
set_option maxHeartbeats 4000000 in
theorem ok__law_purse {f : Addr} {fd : FuncData} (F : FnP K "_law_purse" s__law_purse f fd) (z_abs : mg "abs" = none) : FnOk P w K mg base CX0 1 f fd ["_law_script"] (spPurse K) :=
  DL.ok_purse F sc__law_purse rfl fun cdv A outer s H E hr => (pss_cons (ps_par (i := 1) (j := 2) rfl sc__law_purse.nd rfl rfl (by decide) rfl rfl (pa_cons pe_int (pa_cons (pe_lst pa_nil) pa_nil)) rfl)
    (pss_cons (ps_for PassesOwn.never rfl (pi_list (pe_slice sl_list (pv 0) po_none (po_some pe_int))) (pg_name (i := 3) sc__law_purse.nd rfl (Or.inl rfl))
      (pss_cons (ps_set (i := 1) sc__law_purse.nd rfl (Or.inl rfl) (pe_op op_mod (pe_op op_add (pe_op op_add (pe_op op_mul (pv 1) pe_int) (pe_op op_mod (pv 3) pe_int)) pe_int) pe_int))
      (pss_one (ps_if (pt_cmpR op_ge (pe_callB call_abs (by rfl) z_abs boot_abs (pa_cons (pv 3) pa_nil)) (pe_op op_pow pe_int pe_int) (nomark _)) (pss_one (ps_expr (pe_bm PySem.F.plainAttrs_list PySem.F.slot_list_append PySem.F.type_list_append mt_append (pv 2) (pa_cons (pe_op op_mod (pe_callB call_abs (by rfl) z_abs boot_abs (pa_cons (pv 3) pa_nil)) (pe_op op_mulW (pe_op op_pow pe_int pe_int) (pe_op op_pow pe_int pe_int))) pa_nil)))) pss_nil))))
    (pss_one (ps_ret (pe_lst (pa_cons (pv 2) (pa_cons (pv 1) (pa_cons pe_int pa_nil))))))))
theorem sc__law_pick : FnScope ["_law_purse_here", "_law_many", "_law_digit", "_law_turn", "_law_prime", "_law_once", "_law_mixed"] ["_law_purse_here", "_law_many"] (defScope s__law_pick) := ⟨rfl, rfl, rfl, by decide +kernel, rfl, by decide +kernel, by decide +kernel⟩
set_option maxHeartbeats 4000000 in
theorem ok__law_pick {f : Addr} {fd : FuncData} (F : FnP K "_law_pick" s__law_pick f fd) : FnOk P w K mg base CX0 1 f fd ["_law_purse_here", "_law_many"] (spOf ⟨mg, K⟩ sp__law_pick) :=
  DL.ok_pick F sc__law_pick rfl fun cdv A outer s H E hr => (pss_cons (ps_while PassesOwn.never (PW.pt (pw_and (pt_cmpR (op_neD hr.units) (pe_ix ix_list (pv 0) pe_int (fun _ _ => rfl)) (pe_lst pa_nil) (nomark _)) (pw_and1 (pt_cmpR (op_eqD hr.units) (pe_ix ix_list (pe_ix ix_list (pv 0) pe_int (fun _ _ => rfl)) pe_int (fun _ _ => rfl)) pe_int (nomark _))))) (pss_one (ps_expr (pe_bm PySem.F.plainAttrs_list PySem.F.slot_list_pop PySem.F.type_list_pop mt_popAt (pe_ix ix_list (pv 0) pe_int (fun _ _ => rfl)) (pa_cons pe_int pa_nil)))))
    (pss_cons (ps_if (pt_cmpR (op_neD hr.units) (pe_ix ix_list (pv 0) pe_int (fun _ _ => rfl)) (pe_lst pa_nil) (nomark _)) (pss_cons (ps_set (i := 2) sc__law_pick.nd rfl (Or.inl rfl) (pe_op op_mod (pe_ix ix_list (pe_ix ix_list (pv 0) pe_int (fun _ _ => rfl)) pe_int (fun _ _ => rfl)) (pv 1))) (pss_cons (ps_asg (pe_op op_fdivW (pe_ix ix_list (pe_ix ix_list (pv 0) pe_int (fun _ _ => rfl)) pe_int (fun _ _ => rfl)) (pv 1)) (pg_sub (pe_ix ix_list (pv 0) pe_int (fun _ _ => rfl)) pe_int set_list)) (pss_one (ps_ret (pv 2))))) pss_nil)
    (pss_cons (ps_asg (pe_op op_add (pe_ix ix_list (pv 0) pe_int (fun _ _ => rfl)) pe_int) (pg_sub (pv 0) pe_int set_list)) (pss_cons (ps_set (i := 3) sc__law_pick.nd rfl (Or.inl rfl) (pe_ix ix_list (pv 0) pe_int (fun _ _ => rfl)))
    (pss_cons (ps_set (i := 4) sc__law_pick.nd rfl (Or.inl rfl) (pe_ix ix_list (pe_lst (pa_cons pe_int (pa_cons pe_int (pa_cons pe_int (pa_cons pe_int (pa_cons pe_int (pa_cons pe_int (pa_cons pe_int pa_nil)))))))) (pe_op op_mod (pv 3) pe_int) (fun _ _ => rfl)))
    (pss_cons (ps_set (i := 5) sc__law_pick.nd rfl (Or.inl rfl) (pe_op op_mod (pe_op op_add (pe_ix ix_list (pv 0) pe_int (fun _ _ => rfl)) (pe_op op_mul pe_int (pv 3))) pe_int))
    (pss_cons (ps_set (i := 6) sc__law_pick.nd rfl (Or.inl rfl) (pe_op op_mul (pe_op op_mod (pe_op op_pow (pv 5) pe_int) pe_int) (pe_op op_add (pe_op op_mul pe_int (pv 3)) pe_int)))
    (pss_one (ps_ret (pe_op op_mod (pe_op op_fdivW (pe_op op_mod (pe_op op_add (pv 6) (pe_op op_fdivW (pe_ix ix_list (pv 0) pe_int (fun _ _ => rfl)) pe_int)) (pv 4)) pe_int) (pv 1)))))))))))
theorem sc_law : FnScope ["_law_script", "_law_purse_here", "_law_turn", "_law_way", "_law_many", "_law_word", "_law_due", "_law_k", "_law_things", "_law_thing", "_law_found"] ["_law_script"] (defScope s_law) := ⟨rfl, rfl, rfl, by decide +kernel, rfl, by decide +kernel, by decide +kernel⟩
set_option maxHeartbeats 4000000 in
theorem ok_law {f : Addr} {fd : FuncData} (F : FnP K "law" s_law f fd) {f__law_pick : Addr} {fd__law_pick : FuncData} (F__law_pick : FnP K "_law_pick" s__law_pick f__law_pick fd__law_pick) (G__law_pick : FnOk P w K mg base CX0 1 f__law_pick fd__law_pick ["_law_purse_here", "_law_many"] (spOf ⟨mg, K⟩ sp__law_pick)) (m__law_pick : mg "_law_pick" = some (.ref f__law_pick)) (b__law_pick : Binds K fd__law_pick ["_law_purse_here", "_law_many"] []) {f_weight : Addr} {fd_weight : FuncData} (F_weight : FnP K "weight" s_weight f_weight fd_weight) (G_weight : FnOk P w K mg base CX0 1 f_weight fd_weight ["word"] (spOf ⟨mg, K⟩ sp_weight)) (m_weight : mg "weight" = some (.ref f_weight)) (b_weight : Binds K fd_weight ["word"] []) {f__law_purse : Addr} {fd__law_purse : FuncData} (F__law_purse : FnP K "_law_purse" s__law_purse f__law_purse fd__law_purse) (G__law_purse : FnOk P w K mg base CX0 1 f__law_purse fd__law_purse ["_law_script"] (spPurse K)) (m__law_purse : mg "_law_purse" = some (.ref f__law_purse)) (b__law_purse : Binds K fd__law_purse ["_law_script"] []) (z_range : mg "range" = none) (z_int : mg "int" = none) (z_tuple : mg "tuple" = none) (z_isinstance : mg "isinstance" = none) (z_bool : mg "bool" = none) : FnOk P w K mg base CX0 2 f fd ["_law_script"] (spLaw K) :=
  DL.ok_law (t := t_law) F sc_law (by decide) (fun cdv A outer s H E hr => by
    have R : DSs (cxOf CX0 P w K mg base ["_law_script", "_law_purse_here", "_law_turn", "_law_way", "_law_many", "_law_word", "_law_due", "_law_k", "_law_things", "_law_thing", "_law_found"] "law" (defScope s_law) f cdv A outer s H E).nox (defBody s_law).tail _ t_law := (dss_cons (ds_for PassesOwn.never rfl (di_rng1 (by rfl) z_range (dh_cons de_int dh_nil)) (dg_name (i := 2) sc_law.nd rfl (Or.inl rfl)) (dss_cons (ds_par (i := 3) (j := 4) rfl sc_law.nd rfl rfl (by decide) rfl rfl (de_call (gg := ⟨mg, K⟩) G__law_pick (hr.mono (by decide)) (by rfl) m__law_pick F__law_pick.kp b__law_pick (da_cons (de_var 1) (da_cons de_int da_nil))) (de_call (gg := ⟨mg, K⟩) G__law_pick (hr.mono (by decide)) (by rfl) m__law_pick F__law_pick.kp b__law_pick (da_cons (de_var 1) (da_cons de_int da_nil))) rfl)
    (dss_cons (ds_par (i := 5) (j := 6) rfl sc_law.nd rfl rfl (by decide) rfl rfl (de_lst da_nil) de_int rfl)
    (dss_cons (ds_for PassesOwn.never rfl (di_rng1 (by rfl) z_range (dh_cons (de_var 4) dh_nil)) (dg_name (i := 7) sc_law.nd rfl (Or.inl rfl)) (dss_cons (ds_set (i := 8) sc_law.nd rfl (Or.inl rfl) (de_lst (da_cons (de_op (do_add (K := K)) de_int (de_call (gg := ⟨mg, K⟩) G__law_pick (hr.mono (by decide)) (by rfl) m__law_pick F__law_pick.kp b__law_pick (da_cons (de_var 1) (da_cons de_int da_nil)))) (da_cons de_int (da_cons (de_call (gg := ⟨mg, K⟩) G__law_pick (hr.mono (by decide)) (by rfl) m__law_pick F__law_pick.kp b__law_pick (da_cons (de_var 1) (da_cons de_int da_nil))) da_nil)))))
    (dss_cons (ds_append (de_var 8) (de_op (do_add (K := K)) de_int (de_call (gg := ⟨mg, K⟩) G__law_pick (hr.mono (by decide)) (by rfl) m__law_pick F__law_pick.kp b__law_pick (da_cons (de_var 1) (da_cons de_int da_nil)))))
    (dss_cons (ds_set (i := 9) sc_law.nd rfl (Or.inl rfl) (de_ix (K := K) (de_var 8) (de_var 3)))
    (dss_cons (ds_if (DW.dt (dw_and (dt_cmp (do_eq hr.units (K := K)) (de_var 3) de_int (nomark _)) (dw_and1 (dt_cmp do_gt (de_op do_mod (de_var 7) de_int) de_int (nomark _))))) (dss_one (ds_set (i := 9) sc_law.nd rfl (Or.inl rfl) de_int)) dss_nil)
    (dss_cons (ds_set (i := 6) sc_law.nd rfl (Or.inl rfl) (de_op (do_add (K := K)) (de_var 6) (de_callTy dc_int (by rfl) z_int boot_int (dh_cons (de_cmp (do_ne hr.units (K := K)) (de_var 9) de_int (nomark _)) dh_nil))))
    (dss_one (ds_append (de_var 5) (de_var 9)))))))))
    (dss_cons (ds_set (i := 10) sc_law.nd rfl (Or.inl rfl) (de_call (gg := ⟨mg, K⟩) G_weight (hr.mono (by decide)) (by rfl) m_weight F_weight.kp b_weight (da_cons (de_callTy (dc_tuple (K := K)) (by rfl) z_tuple boot_tuple (dh_cons (de_var 5) dh_nil)) da_nil)))
    (dss_cons (ds_if (DW.dt (dw_or (dt_not (dt_tru (K := K) (de_isi (K := K) (de_var 10) kit_int (by rfl) z_isinstance (by rfl) z_int boot_int))) (dw_or (dt_tru (K := K) (de_isi (K := K) (de_var 10) kit_bool (by rfl) z_isinstance (by rfl) z_bool boot_bool)) (dw_or1 (dt_cmp (do_ne hr.units (K := K)) (de_var 10) (de_var 6) (nomark _)))))) (dss_one (ds_ret de_bl)) dss_nil)
    (dss_one (ds_if (DW.dt (dw_or (dt_cmp (do_ne hr.units (K := K)) (de_call (gg := ⟨mg, K⟩) G_weight (hr.mono (by decide)) (by rfl) m_weight F_weight.kp b_weight (da_cons (de_callTy (dc_tuple (K := K)) (by rfl) z_tuple boot_tuple (dh_cons (de_revL (K := K) (de_var 5)) dh_nil)) da_nil)) (de_var 6) (nomark _)) (dw_or1 (dt_cmp (do_ne hr.units (K := K)) (de_call (gg := ⟨mg, K⟩) G_weight (hr.mono (by decide)) (by rfl) m_weight F_weight.kp b_weight (da_cons (de_callTy (dc_tuple (K := K)) (by rfl) z_tuple boot_tuple (dh_cons (de_var 5) dh_nil)) da_nil)) (de_var 6) (nomark _))))) (dss_one (ds_ret de_bl)) dss_nil))))))))
    (dss_one (ds_ret (de_cmp (do_eq hr.units (K := K)) (de_call (gg := ⟨mg, K⟩) G_weight (hr.mono (by decide)) (by rfl) m_weight F_weight.kp b_weight (da_cons (de_tup da_nil) da_nil)) de_int (nomark _)))))
    exact ⟨_, pss_cons (ps_set (i := 1) sc_law.nd rfl (Or.inl rfl) (pe_call G__law_purse (hr.mono (by decide)) (by rfl) m__law_purse F__law_purse.kp b__law_purse .nil pass0 (pa_cons (pv 0) pa_nil))) R.p, R.s⟩) pure_law
end
def dd_weight : He.DefD := ⟨("weight", none), "weight", "weight", defArgs s_weight, defBody s_weight, defScope s_weight, [], []⟩
def dd__law_purse : He.DefD := ⟨("_law_purse", none), "_law_purse", "_law_purse", defArgs s__law_purse, defBody s__law_purse, defScope s__law_purse, [], []⟩
def dd__law_pick : He.DefD := ⟨("_law_pick", none), "_law_pick", "_law_pick", defArgs s__law_pick, defBody s__law_pick, defScope s__law_pick, [], []⟩
def dd_law : He.DefD := ⟨("law", none), "law", "law", defArgs s_law, defBody s_law, defScope s_law, [], []⟩
def fnl : List He.DefD := [dd_weight, dd__law_purse, dd__law_pick, dd_law]
def fal : List He.Fa := [.glo "weight", .glo "_law_purse", .glo "_law_pick", .glo "law", .free "len", .free "abs", .free "range", .free "int", .free "tuple", .free "isinstance", .free "bool"]
abbrev RO : PySem.W.OpenRow := PySem.W.OpenLaw.row PySem.Challenge.rw_roundwords_k29_weights
abbrev hk : PySem.W.Hook := He.hookD 4 fal fnl
def ob (s : PySem.W.SharedT) : He.AlD := He.obsDG 4 fal fnl (HandSHeadRun.getT s)
theorem ob_eq (s : PySem.W.SharedT) : ob s = hk.obs s.abs := He.obsDG_eq (HandSHeadRun.getT_eq s)
theorem run (w : World) : HandSHeadRun.RunEq RO (PySem.W.view RO.prog [5]) hk ob 20000 ["weight", "_law_purse", "_law_pick"] w := by
  intro os
  kernel_rfl
theorem facts {P : Program} {w : World} {K : PySem.W.Frag} {h : Heap} {mg : Str → Option Value} {f : Addr} (X : K.In h) (G : h.Ns mainGlobals mg) (hfa : mg ("law" : Str) = some (.ref f)) (c : He.SaysD fal fnl K) :
    ∃ fd : FuncData, (∀ (s : Shared) (v : Value), BindsTo s fd ⟨[v], []⟩ [("_law_script", v)]) ∧ ∀ base : Heap, K.In base → base.Ns mainGlobals mg → FnOk P w K mg base CX0 2 f fd ["_law_script"] (spLaw K) := by
  obtain ⟨fd_weight, F_weight⟩ := c.def_ 0 (d := dd_weight) rfl
  have m_weight := He.glo_ok X G (c.fact 0 (f := .glo "weight") rfl)
  have b_weight : Binds K fd_weight ["word"] [] := F_weight.bindsN fun _ _ _ _ _ _ us hl => match us, hl with | [_], _ => rfl
  obtain ⟨fd__law_purse, F__law_purse⟩ := c.def_ 1 (d := dd__law_purse) rfl
  have m__law_purse := He.glo_ok X G (c.fact 1 (f := .glo "_law_purse") rfl)
  have b__law_purse : Binds K fd__law_purse ["_law_script"] [] := F__law_purse.bindsN fun _ _ _ _ _ _ us hl => match us, hl with | [_], _ => rfl
  obtain ⟨fd__law_pick, F__law_pick⟩ := c.def_ 2 (d := dd__law_pick) rfl
  have m__law_pick := He.glo_ok X G (c.fact 2 (f := .glo "_law_pick") rfl)
  have b__law_pick : Binds K fd__law_pick ["_law_purse_here", "_law_many"] [] := F__law_pick.bindsN fun _ _ _ _ _ _ us hl => match us, hl with | [_, _], _ => rfl
  obtain ⟨fd_law, F_law⟩ := c.def_ 3 (d := dd_law) rfl
  have m_law := He.glo_ok X G (c.fact 3 (f := .glo "law") rfl)
  have b_law : Binds K fd_law ["_law_script"] [] := F_law.bindsN fun _ _ _ _ _ _ us hl => match us, hl with | [_], _ => rfl
  have z_len := He.free_ok X G (c.fact 4 (f := .free "len") rfl)
  have z_abs := He.free_ok X G (c.fact 5 (f := .free "abs") rfl)
  have z_range := He.free_ok X G (c.fact 6 (f := .free "range") rfl)
  have z_int := He.free_ok X G (c.fact 7 (f := .free "int") rfl)
  have z_tuple := He.free_ok X G (c.fact 8 (f := .free "tuple") rfl)
  have z_isinstance := He.free_ok X G (c.fact 9 (f := .free "isinstance") rfl)
  have z_bool := He.free_ok X G (c.fact 10 (f := .free "bool") rfl)
  have e := hfa.symm.trans m_law
  cases e
  have b := FunD.bindsA (ps := ["_law_script"]) F_law fun _ _ _ _ _ _ us hl => match us, hl with | [_], _ => rfl
  refine ⟨fd_law, fun s v => b s [v] rfl, fun base _ _ => ?_⟩
  have G_weight := ok_weight (P := P) (w := w) (mg := mg) (base := base) F_weight z_len
  have G__law_purse := ok__law_purse (P := P) (w := w) (mg := mg) (base := base) F__law_purse z_abs
  have G__law_pick := ok__law_pick (P := P) (w := w) (mg := mg) (base := base) F__law_pick
  exact ok_law F_law F__law_pick G__law_pick m__law_pick b__law_pick F_weight G_weight m_weight b_weight F__law_purse G__law_purse m__law_purse b__law_purse z_range z_int z_tuple z_isinstance z_bool
end LW
open PySem PySem.W PySem.Calls PyProof.Rows
set_option maxRecDepth 100000 in
set_option maxHeartbeats 0 in
theorem PySem.Challenge.cw_roundwords_k29_weights_holds : PySem.Challenge.rw_roundwords_k29_weights.Holds := by
  w_on; o_law
  refine HandSHeadRun.head_any (r := OpenLaw.row PySem.Challenge.rw_roundwords_k29_weights) (q := view (OpenLaw.row PySem.Challenge.rw_roundwords_k29_weights).prog [5]) (H := LW.hk) (ob := LW.ob) (M := 20000) (loose := ["weight", "_law_purse", "_law_pick"]) (d := HandSHeadRun.topDef (OpenLaw.row PySem.Challenge.rw_roundwords_k29_weights).prog 5) (kwd := []) LW.ob_eq
    (by kernel_rfl) (fun s => by kernel_rfl) LW.run (by kernel_rfl) (by kernel_rfl) (by kernel_rfl) (by rfl) (by first | assumption | decide +kernel) (by decide +kernel) ⟨rfl, rfl, rfl, rfl, rfl, by decide +kernel⟩ ?hw ?hc
  case hw => w_witness2
  case hc =>
    refine L2.walk_ofE (l := PySem.Challenge.rw_roundwords_k29_weights) (n := 63) (k := 2) (x := "_law_script") (CX := L2.CX0) rfl (by decide) (by kernel_rfl) ⟨rfl, by decide, by decide⟩ ?F (fun _ _ _ _ z => z)
    intro w mg fa h Y G hmg0
    obtain ⟨K, KX, c⟩ := Y
    have hmg : mg ("law" : PySem.Str) = some (.ref fa) := by
      have e : (HandSHeadRun.topDef (OpenLaw.row PySem.Challenge.rw_roundwords_k29_weights).prog 5).name = ("law" : PySem.Str) := by kernel_rfl
      rw [← e]
      exact hmg0
    obtain ⟨fd, hb, hF⟩ := LW.facts (P := (PySem.Challenge.rw_roundwords_k29_weights).prog) (w := w) KX G hmg c
    exact ⟨K, fd, DL.spLaw K, KX, hb, fun H a ns hl _ hS => ⟨a, ns, rfl, hS, hl, fun _ => rfl⟩, hF⟩
